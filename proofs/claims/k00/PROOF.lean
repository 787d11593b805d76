import PyProof.Rows.All
import Wide.All
import OpenK.AllK
import Wide.FinOn
import HandS.ForMost
import HandS.Flow
import HandS.Style
import HandS.TupAny
import HandS.TupLe
import HandS.IsInst
import HandS.Wide
import HandS.Deep
import HandS.Zip
import HandS.SetKeys
import HandS.DictTup
import HandS.Sort
import HandS.StrMore
import HandS.Conv
import HandS.Replace
import HandS.WordsDict
import HandS.TupLen
import HandS.NoneIn
import KE.GoesEnum
import KE.GoesMore
import HandS.MakeKwOnly
import HandS.SortRule
import KE.KSortTupAny
import HandS.EndBits
import HandS.Codes
import PySem.Challenge.RW_escapechains_k00_readers_with_several_ki
set_option Elab.async false
set_option linter.all false
set_option maxRecDepth 100000
set_option maxHeartbeats 4000000
/-! EvA: value trees, the store of mutable objects, their tie to the layer's heap, evaluation with continuations -/
namespace Ev
open PySem L2

/-- a value: tuples by value (kt: a tuple that a module's constant is), mutable objects by their number in the store -/
inductive D where
  | non | bl (b : Bool) | int (i : Int) | str (x : Str) | tup (ds : List D) | kt (ds : List D) | ref (n : Nat)
/-- a mutable object: a list, a list that is only read, a dict, a dict that is walked (locked), an instance -/
inductive O where
  | lst (ds : List D) | rol (ds : List D) | dct (kvs : List (D × D)) | rod (kvs : List (D × D)) | ins (c : Str) (fs : List (Str × D))
abbrev Sto := List O
/-- an outcome: a value and the store, or nothing is said -/
inductive R (α : Type) where
  | ok (a : α) (S : Sto) | no
def R.bind {α β : Type} (r : R α) (k : α → Sto → R β) : R β := match r with
  | .ok a S => k a S
  | .no => .no
/-- an expression's value: a value, or a list that was just made and that nobody else knows -/
inductive XR where
  | d (x : D) | tl (ds : List D)
/-- a just made list gets its number -/
def force (r : R XR) : R D := r.bind fun x S => match x with
  | .d d => .ok d S
  | .tl ds => .ok (.ref S.length) (S ++ [.lst ds])
abbrev Env := List (Option D)
/-- how large a list or text may become -/
abbrev BIG : Nat := 10000000
theorem big_le {n : Nat} (h : n ≤ BIG) : n ≤ sizeLine := Nat.le_trans h (by rw [sizeLine_eq]; decide)
theorem big_lt {n : Nat} (h : n < BIG) : n < sizeLine := Nat.lt_of_lt_of_le h (by rw [sizeLine_eq]; decide)

/-! ### the tie to the heap -/
section
variable (K : PySem.W.Frag) (ι : List Addr) (H : Hp)
mutual
def DR : D → V → Prop
  | .non, v => v = .non
  | .bl b, v => v = .bl b
  | .int i, v => v = .int i
  | .str x, v => v = .str x
  | .tup ds, v => ∃ a vs, v = .ref a ∧ H a = some (.tup vs) ∧ DRs ds vs
  | .kt ds, v => ∃ a vs, v = .ref a ∧ (∀ H', SqT K H' a vs) ∧ DRs ds vs
  | .ref n, v => ∃ a, v = .ref a ∧ ι[n]? = some a
def DRs : List D → List V → Prop
  | [], vs => vs = []
  | d :: ds, vs => ∃ w ws, vs = w :: ws ∧ DR d w ∧ DRs ds ws
end
/-- a key: an int or a text; a tuple of such -/
def keyD : D → Option Key
  | .int i => some (.inl i)
  | .str x => some (.inr x)
  | _ => none
def keysD : List D → Option (List Key)
  | [] => some []
  | d :: ds => match keyD d, keysD ds with
    | some k, some ks => some (k :: ks)
    | _, _ => none
def keyT : D → Option (List Key)
  | .tup ds => keysD ds
  | _ => none
/-- a dict's content -/
def DcR (kvs : List (D × D)) (u : HO) : Prop :=
  (∃ kv, u = .dK kv ∧ Paired (fun (p : D × D) (q : Key × V) => keyD p.1 = some q.1 ∧ DR K ι H p.2 q.2) kvs kv) ∨
  (∃ kv, u = .dT kv ∧ Paired (fun (p : D × D) (q : List Key × V) => keyT p.1 = some q.1 ∧ DR K ι H p.2 q.2) kvs kv)
variable (mg : Str → Option Value)
def OR (o : O) (a : Addr) : Prop := match o with
  | .lst ds => ∃ vs, H a = some (.lst vs) ∧ DRs K ι H ds vs
  | .rol ds => ∃ vs, Rd H a (.lst vs) ∧ DRs K ι H ds vs
  | .dct kvs => ∃ u, H a = some u ∧ DcR K ι H kvs u
  | .rod kvs => ∃ od u, H a = some (.frz od u) ∧ DcR K ι H kvs u
  | .ins c fs => ∃ C dx gs, mg c = some (.ref C) ∧ H a = some (.ins C dx gs) ∧ Paired (fun (p : Str × D) (q : Str × V) => p.1 = q.1 ∧ DR K ι H p.2 q.2) fs gs
structure SR (S : Sto) : Prop where
  len : ι.length = S.length
  nd : ι.Nodup
  obj : ∀ (n : Nat) (o : O) (a : Addr), S[n]? = some o → ι[n]? = some a → OR K ι H mg o a
/-- the names' values -/
def NR (s : Env) (σ : L2.St) : Prop := s.length = σ.length ∧ ∀ (i : Nat) (d : D), s[i]? = some (some d) → ∃ v, σ[i]? = some (some v) ∧ DR K ι H d v
/-- H0: the heap ahead of the evaluation; a just made list did not stand there -/
def XRel (H0 : Hp) : XR → V → Prop
  | .d d, v => DR K ι H d v
  | .tl ds, v => ∃ a vs, v = .ref a ∧ H0 a = none ∧ H a = some (.lst vs) ∧ a ∉ ι ∧ DRs K ι H ds vs
end
/-- more is known -/
structure Wk (K : PySem.W.Frag) (ι : List Addr) (H : Hp) (ι' : List Addr) (H' : Hp) : Prop where
  pre : ∃ more, ι' = ι ++ more
  tup : ∀ a vs, H a = some (.tup vs) → H' a = some (.tup vs)
/-- more is known, nothing is lost -/
structure Gro (K : PySem.W.Frag) (ι : List Addr) (H : Hp) (ι' : List Addr) (H' : Hp) : Prop where
  pre : ∃ more, ι' = ι ++ more
  tup : ∀ a vs, H a = some (.tup vs) → H' a = some (.tup vs)
  keep : ∀ a o, H a = some o → a ∉ ι → H' a = some o ∧ a ∉ ι'
  dom : ∀ a o, H a = some o → ∃ o', H' a = some o'
  frz : ∀ a od u, H a = some (.frz od u) → H' a = some (.frz od u)
section
variable {K : PySem.W.Frag} {ι ι' ι2 : List Addr} {H H' H2 : Hp} {mg : Str → Option Value}
theorem Gro.refl : Gro K ι H ι H := ⟨⟨[], by simp⟩, fun _ _ h => h, fun _ _ h n => ⟨h, n⟩, fun _ o h => ⟨o, h⟩, fun _ _ _ h => h⟩
theorem Gro.trans (a : Gro K ι H ι' H') (b : Gro K ι' H' ι2 H2) : Gro K ι H ι2 H2 := by
  refine ⟨?_, fun x vs h => b.tup x vs (a.tup x vs h), fun x o h n => ?_, fun x o h => let ⟨o1, h1⟩ := a.dom x o h; b.dom x o1 h1, fun x od u h => b.frz x od u (a.frz x od u h)⟩
  · obtain ⟨m1, e1⟩ := a.pre
    obtain ⟨m2, e2⟩ := b.pre
    exact ⟨m1 ++ m2, by rw [e2, e1, List.append_assoc]⟩
  · obtain ⟨h1, n1⟩ := a.keep x o h n
    exact b.keep x o h1 n1
theorem Gro.free (g : Gro K ι H ι' H') {a : Addr} (h : H' a = none) : H a = none := by
  cases e : H a with
  | none => rfl
  | some o => obtain ⟨o', e'⟩ := g.dom a o e; rw [h] at e'; cases e'
theorem Gro.wk (g : Gro K ι H ι' H') : Wk K ι H ι' H' := ⟨g.pre, g.tup⟩
theorem Wk.get (g : Wk K ι H ι' H') {n : Nat} {a : Addr} (h : ι[n]? = some a) : ι'[n]? = some a := by
  obtain ⟨m, e⟩ := g.pre
  have hl := (List.getElem?_eq_some_iff.mp h).1
  rw [e, List.getElem?_append_left hl, h]
theorem Wk.snoc (a : Addr) : Wk K ι H (ι ++ [a]) H := ⟨⟨[a], rfl⟩, fun _ _ h => h⟩
mutual
theorem DR.mono (g : Wk K ι H ι' H') : ∀ {d : D} {v : V}, DR K ι H d v → DR K ι' H' d v
  | .non, _, h => h
  | .bl _, _, h => h
  | .int _, _, h => h
  | .str _, _, h => h
  | .tup ds, _, h => by
    unfold DR at h ⊢
    obtain ⟨a, vs, e, q, r⟩ := h
    exact ⟨a, vs, e, g.tup _ _ q, DRs.mono g r⟩
  | .kt ds, _, h => by
    unfold DR at h ⊢
    obtain ⟨a, vs, e, q, r⟩ := h
    exact ⟨a, vs, e, q, DRs.mono g r⟩
  | .ref n, _, h => by
    unfold DR at h ⊢
    obtain ⟨a, e, q⟩ := h
    exact ⟨a, e, g.get q⟩
theorem DRs.mono (g : Wk K ι H ι' H') : ∀ {ds : List D} {vs : List V}, DRs K ι H ds vs → DRs K ι' H' ds vs
  | [], _, h => by unfold DRs at h ⊢; exact h
  | d :: ds, _, h => by
    unfold DRs at h ⊢
    obtain ⟨w, ws, e, q, r⟩ := h
    exact ⟨w, ws, e, DR.mono g q, DRs.mono g r⟩
end
theorem DRs.nil_iff {vs : List V} : DRs K ι H [] vs ↔ vs = [] := by unfold DRs; exact Iff.rfl
theorem DRs.cons_iff {d : D} {ds : List D} {vs : List V} : DRs K ι H (d :: ds) vs ↔ ∃ w ws, vs = w :: ws ∧ DR K ι H d w ∧ DRs K ι H ds ws := by
  constructor
  · intro h; unfold DRs at h; exact h
  · intro h; unfold DRs; exact h
theorem DRs.cons {d : D} {ds : List D} {v : V} {vs : List V} (h : DR K ι H d v) (t : DRs K ι H ds vs) : DRs K ι H (d :: ds) (v :: vs) := DRs.cons_iff.mpr ⟨v, vs, rfl, h, t⟩
theorem DRs.nil : DRs K ι H [] [] := DRs.nil_iff.mpr rfl
theorem DRs.length : ∀ {ds : List D} {vs : List V}, DRs K ι H ds vs → vs.length = ds.length
  | [], vs, h => by rw [DRs.nil_iff.mp h]; rfl
  | d :: ds, vs, h => by
    obtain ⟨w, ws, rfl, _, r⟩ := DRs.cons_iff.mp h
    rw [List.length_cons, List.length_cons, DRs.length r]
theorem DRs.append : ∀ {ds es : List D} {vs ws : List V}, DRs K ι H ds vs → DRs K ι H es ws → DRs K ι H (ds ++ es) (vs ++ ws)
  | [], _, vs, _, h, k => by rw [DRs.nil_iff.mp h]; exact k
  | d :: ds, _, vs, _, h, k => by
    obtain ⟨w, ws, rfl, q, r⟩ := DRs.cons_iff.mp h
    exact DRs.cons q (DRs.append r k)
theorem DRs.get : ∀ {ds : List D} {vs : List V} {i : Nat} {d : D}, DRs K ι H ds vs → ds[i]? = some d → ∃ v, vs[i]? = some v ∧ DR K ι H d v
  | [], _, i, d, _, e => by simp at e
  | x :: ds, vs, 0, d, h, e => by
    obtain ⟨w, ws, rfl, q, r⟩ := DRs.cons_iff.mp h
    simp at e; subst e
    exact ⟨w, rfl, q⟩
  | x :: ds, vs, i + 1, d, h, e => by
    obtain ⟨w, ws, rfl, q, r⟩ := DRs.cons_iff.mp h
    obtain ⟨v, h1, h2⟩ := DRs.get (i := i) r (by simpa using e)
    exact ⟨v, by simpa using h1, h2⟩
theorem DRs.getV : ∀ {ds : List D} {vs : List V} {i : Nat} {v : V}, DRs K ι H ds vs → vs[i]? = some v → ∃ d, ds[i]? = some d ∧ DR K ι H d v := fun {ds vs i v} h e => by
  have hl := (List.getElem?_eq_some_iff.mp e).1
  rw [h.length] at hl
  obtain ⟨w, h1, h2⟩ := h.get (List.getElem?_eq_getElem hl)
  rw [e] at h1; cases h1
  exact ⟨_, List.getElem?_eq_getElem hl, h2⟩
theorem DRs.set : ∀ {ds : List D} {vs : List V} (i : Nat) {d : D} {v : V}, DRs K ι H ds vs → DR K ι H d v → DRs K ι H (ds.set i d) (vs.set i v)
  | [], _, i, _, _, h, _ => by rw [DRs.nil_iff.mp h]; exact DRs.nil
  | x :: ds, vs, 0, _, _, h, k => by
    obtain ⟨w, ws, rfl, q, r⟩ := DRs.cons_iff.mp h
    exact DRs.cons k r
  | x :: ds, vs, i + 1, _, _, h, k => by
    obtain ⟨w, ws, rfl, q, r⟩ := DRs.cons_iff.mp h
    exact DRs.cons q (DRs.set i r k)
theorem DRs.eraseIdx : ∀ {ds : List D} {vs : List V} (i : Nat), DRs K ι H ds vs → DRs K ι H (ds.eraseIdx i) (vs.eraseIdx i)
  | [], _, i, h => by rw [DRs.nil_iff.mp h]; exact DRs.nil
  | x :: ds, vs, 0, h => by
    obtain ⟨w, ws, rfl, q, r⟩ := DRs.cons_iff.mp h
    exact r
  | x :: ds, vs, i + 1, h => by
    obtain ⟨w, ws, rfl, q, r⟩ := DRs.cons_iff.mp h
    exact DRs.cons q (DRs.eraseIdx i r)
theorem DRs.take : ∀ {ds : List D} {vs : List V} (n : Nat), DRs K ι H ds vs → DRs K ι H (ds.take n) (vs.take n)
  | [], _, n, h => by rw [DRs.nil_iff.mp h]; simpa using DRs.nil
  | x :: ds, vs, 0, h => by simpa using DRs.nil
  | x :: ds, vs, n + 1, h => by
    obtain ⟨w, ws, rfl, q, r⟩ := DRs.cons_iff.mp h
    exact DRs.cons q (DRs.take n r)
theorem DRs.drop : ∀ {ds : List D} {vs : List V} (n : Nat), DRs K ι H ds vs → DRs K ι H (ds.drop n) (vs.drop n)
  | [], _, n, h => by rw [DRs.nil_iff.mp h]; simpa using DRs.nil
  | x :: ds, vs, 0, h => h
  | x :: ds, vs, n + 1, h => by
    obtain ⟨w, ws, rfl, q, r⟩ := DRs.cons_iff.mp h
    exact DRs.drop n r
theorem DRs.reverse {ds : List D} {vs : List V} (h : DRs K ι H ds vs) : DRs K ι H ds.reverse vs.reverse := by
  induction ds generalizing vs with
  | nil => rw [DRs.nil_iff.mp h]; exact DRs.nil
  | cons d ds ih =>
    obtain ⟨w, ws, rfl, q, r⟩ := DRs.cons_iff.mp h
    rw [List.reverse_cons, List.reverse_cons]
    exact (ih r).append (DRs.cons q DRs.nil)
theorem DRs.ints {is : List Int} : ∀ {vs : List V}, DRs K ι H (is.map D.int) vs → vs = is.map V.int := by
  induction is with
  | nil => intro vs h; exact DRs.nil_iff.mp h
  | cons i is ih =>
    intro vs h
    obtain ⟨w, ws, rfl, q, r⟩ := DRs.cons_iff.mp h
    unfold DR at q
    rw [q, ih r]; rfl
theorem DRs.of_ints {is : List Int} : DRs K ι H (is.map D.int) (is.map V.int) := by
  induction is with
  | nil => exact DRs.nil
  | cons i is ih => exact DRs.cons (by unfold DR; rfl) ih

theorem Paired.mono' {α β : Type} {F G : α → β → Prop} {l₁ : List α} {l₂ : List β} (h : Paired F l₁ l₂) (f : ∀ a b, F a b → G a b) : Paired G l₁ l₂ := L2.Paired.mapP h f
theorem DcR.mono (g : Wk K ι H ι' H') {kvs : List (D × D)} {u : HO} (h : DcR K ι H kvs u) : DcR K ι' H' kvs u := by
  rcases h with ⟨kv, e, p⟩ | ⟨kv, e, p⟩
  · exact .inl ⟨kv, e, Paired.mono' p fun _ _ q => ⟨q.1, DR.mono g q.2⟩⟩
  · exact .inr ⟨kv, e, Paired.mono' p fun _ _ q => ⟨q.1, DR.mono g q.2⟩⟩
theorem NR.mono (g : Wk K ι H ι' H') {s : Env} {σ : L2.St} (h : NR K ι H s σ) : NR K ι' H' s σ := ⟨h.1, fun i d e => by
  obtain ⟨v, h1, h2⟩ := h.2 i d e
  exact ⟨v, h1, DR.mono g h2⟩⟩
theorem OR.mono (g : Wk K ι H ι' H') {o : O} {a : Addr} (ha : ∀ u, H a = some u → H' a = some u) (h : OR K ι H mg o a) : OR K ι' H' mg o a := by
  cases o with
  | lst ds => obtain ⟨vs, e, r⟩ := h; exact ⟨vs, ha _ e, DRs.mono g r⟩
  | rol ds =>
    obtain ⟨vs, e, r⟩ := h
    refine ⟨vs, ?_, DRs.mono g r⟩
    rcases e with e | ⟨o, e⟩
    · exact .inl (ha _ e)
    · exact .inr ⟨o, ha _ e⟩
  | dct kvs => obtain ⟨u, e, r⟩ := h; exact ⟨u, ha _ e, r.mono g⟩
  | rod kvs => obtain ⟨od, u, e, r⟩ := h; exact ⟨od, u, ha _ e, r.mono g⟩
  | ins c fs =>
    obtain ⟨C, dx, gs, m, e, p⟩ := h
    exact ⟨C, dx, gs, m, ha _ e, Paired.mono' p fun _ _ q => ⟨q.1, DR.mono g q.2⟩⟩

/-- a new object at p, not numbered -/
theorem Gro.laid {p : Addr} {o : HO} (hp : H p = none) (hn : p ∉ ι) : Gro K ι H ι (upd H p o) := by
  have kp : ∀ a u, H a = some u → upd H p o a = some u := fun a u e => by rw [upd_ne (ne_of_none e hp)]; exact e
  exact ⟨⟨[], by simp⟩, fun a vs h => kp _ _ h, fun a u e n => ⟨kp a u e, n⟩, fun a u e => ⟨u, kp a u e⟩, fun a od u e => kp a _ e⟩
/-- the store stands where its objects stand -/
theorem SR.grow {S : Sto} (sr : SR K ι H mg S) (g : Gro K ι H ι H') (k : ∀ a, a ∈ ι → ∀ u, H a = some u → H' a = some u) : SR K ι H' mg S :=
  ⟨sr.len, sr.nd, fun n o a e1 e2 => (sr.obj n o a e1 e2).mono g.wk (k a (List.mem_of_getElem? e2))⟩
theorem SR.fresh {S : Sto} (sr : SR K ι H mg S) {p : Addr} (hp : H p = none) : p ∉ ι := fun hm => by
  obtain ⟨n, hn⟩ := List.mem_iff_getElem?.mp hm
  have hl := (List.getElem?_eq_some_iff.mp hn).1
  rw [sr.len] at hl
  have q := sr.obj n _ p (List.getElem?_eq_getElem hl) hn
  revert q
  cases S[n] with
  | lst ds => rintro ⟨vs, e, _⟩; rw [hp] at e; cases e
  | rol ds =>
    rintro ⟨vs, e, _⟩
    rcases e with e | ⟨_, e⟩ <;> (rw [hp] at e; cases e)
  | dct kvs => rintro ⟨u, e, _⟩; rw [hp] at e; cases e
  | rod kvs => rintro ⟨_, u, e, _⟩; rw [hp] at e; cases e
  | ins c fs => rintro ⟨_, _, _, _, e, _⟩; rw [hp] at e; cases e
end
section
variable {K : PySem.W.Frag} {ι ι' ι2 : List Addr} {H H' H2 : Hp} {mg : Str → Option Value}
theorem XRel.back {H0 : Hp} (g : Gro K ι H ι' H') {x : XR} {v : V} {ι3 : List Addr} {H3 : Hp} (h : XRel K ι3 H3 H' x v) : XRel K ι3 H3 H x v := by
  cases x with
  | d d => exact h
  | tl ds => obtain ⟨a, vs, e, n0, r⟩ := h; exact ⟨a, vs, e, g.free n0, r⟩
/-- a numbered object is changed -/
theorem Gro.put {S : Sto} (sr : SR K ι H mg S) {n : Nat} {a : Addr} {o : HO} (hn : ι[n]? = some a) (mu : Mut (H a)) : Gro K ι H ι (upd H a o) := by
  have ha : a ∈ ι := List.mem_of_getElem? hn
  have ne : ∀ b, b ∉ ι → b ≠ a := fun b hb e => hb (e ▸ ha)
  refine ⟨⟨[], by simp⟩, fun b vs h => ?_, fun b u e nb => ⟨by rw [upd_ne (ne b nb)]; exact e, nb⟩, fun b u e => ?_, fun b od u e => ?_⟩
  · by_cases hb : b = a
    · subst hb; rw [h] at mu; exact mu.elim
    · rw [upd_ne hb]; exact h
  · by_cases hb : b = a
    · subst hb; exact ⟨o, upd_same⟩
    · exact ⟨u, by rw [upd_ne hb]; exact e⟩
  · by_cases hb : b = a
    · subst hb; rw [e] at mu; exact mu.elim
    · rw [upd_ne hb]; exact e
/-- what outcomes ask of the wish Q -/
def RQ (K : PySem.W.Frag) (mg : Str → Option Value) (ι : List Addr) (H : Hp) (r : R XR) (Q : VK) : Prop :=
  ∃ x S', r = .ok x S' ∧ ∀ ι' H' v, Gro K ι H ι' H' → SR K ι' H' mg S' → XRel K ι' H' H x v → Q v H'
theorem RQ.ok {x : XR} {S : Sto} {Q : VK} (h : ∀ ι' H' v, Gro K ι H ι' H' → SR K ι' H' mg S → XRel K ι' H' H x v → Q v H') : RQ K mg ι H (.ok x S) Q := ⟨x, S, rfl, h⟩
theorem RQ.use {x : XR} {S : Sto} {Q : VK} (h : RQ K mg ι H (.ok x S) Q) {ι' : List Addr} {H' : Hp} {v : V} (g : Gro K ι H ι' H') (sr : SR K ι' H' mg S) (xr : XRel K ι' H' H x v) : Q v H' := by
  obtain ⟨x', S', e, k⟩ := h
  cases e
  exact k ι' H' v g sr xr
theorem RQ.later {r : R XR} {Q : VK} (h : RQ K mg ι H r Q) (g : Gro K ι H ι' H') : RQ K mg ι' H' r Q := by
  obtain ⟨x, S', e, k⟩ := h
  exact ⟨x, S', e, fun ι2 H2 v g2 sr xr => k ι2 H2 v (g.trans g2) sr (xr.back (H0 := H) g)⟩
theorem RQ.no {Q : VK} (h : RQ K mg ι H .no Q) : False := by obtain ⟨_, _, e, _⟩ := h; cases e
theorem getElem?_snoc {α : Type} (l : List α) (x : α) : (l ++ [x])[l.length]? = some x := by simp
theorem snoc_cases {α : Type} {l : List α} {x y : α} {n : Nat} (h : (l ++ [x])[n]? = some y) : (n < l.length ∧ l[n]? = some y) ∨ (n = l.length ∧ y = x) := by
  by_cases hn : n < l.length
  · exact .inl ⟨hn, by rw [List.getElem?_append_left hn] at h; exact h⟩
  · have h2 : n < (l ++ [x]).length := (List.getElem?_eq_some_iff.mp h).1
    rw [List.length_append, List.length_singleton] at h2
    have e : n = l.length := by omega
    subst e
    rw [getElem?_snoc] at h; cases h
    exact .inr ⟨rfl, rfl⟩
/-- an object that is known to the heap gets a number -/
theorem number {S : Sto} {a : Addr} {o : O} {ι0 : List Addr} {H0 : Hp} (g : Gro K ι0 H0 ι H) (sr : SR K ι H mg S) (h0 : H0 a = none) (n : a ∉ ι) (r : OR K ι H mg o a) :
    Gro K ι0 H0 (ι ++ [a]) H ∧ SR K (ι ++ [a]) H mg (S ++ [o]) ∧ DR K (ι ++ [a]) H (.ref S.length) (.ref a) := by
  have wk : Wk K ι H (ι ++ [a]) H := Wk.snoc a
  refine ⟨⟨?_, g.tup, fun b u e nb => ?_, g.dom, g.frz⟩, ⟨by rw [List.length_append, List.length_append, sr.len, List.length_singleton, List.length_singleton], ?_, fun m o' b e1 e2 => ?_⟩, ?_⟩
  · obtain ⟨m, e⟩ := g.pre
    exact ⟨m ++ [a], by rw [e, List.append_assoc]⟩
  · obtain ⟨h1, h2⟩ := g.keep b u e nb
    refine ⟨h1, fun hm => ?_⟩
    rcases List.mem_append.mp hm with hm | hm
    · exact h2 hm
    · have e2 : b = a := by simpa using hm
      rw [e2, h0] at e; cases e
  · rw [List.nodup_append]
    refine ⟨sr.nd, by simp, fun x hx y hy e => ?_⟩
    have e2 : y = a := by simpa using hy
    rw [e2] at e; rw [e] at hx; exact n hx
  · rcases snoc_cases e1 with ⟨hl, e1⟩ | ⟨hl, e1⟩
    · rw [← sr.len] at hl
      rw [List.getElem?_append_left hl] at e2
      exact (sr.obj m o' b e1 e2).mono wk fun _ h => h
    · subst e1
      rw [hl, ← sr.len, getElem?_snoc] at e2
      cases e2
      exact r.mono wk fun _ h => h
  · unfold DR
    exact ⟨a, rfl, by rw [← sr.len, getElem?_snoc]⟩
/-- ONE STEP: an expression, then what follows with its value (a just made list gets its number) -/
theorem bindD {r : R XR} {k : D → Sto → R XR} {Q Q1 : VK} (h : RQ K mg ι H ((force r).bind k) Q)
    (f : ∀ d S1 ι1 H1 v, Gro K ι H ι1 H1 → SR K ι1 H1 mg S1 → DR K ι1 H1 d v → RQ K mg ι1 H1 (k d S1) Q → Q1 v H1) : RQ K mg ι H r Q1 := by
  cases r with
  | no => exact h.no.elim
  | ok x S =>
    refine RQ.ok fun ι' H' v g sr xr => ?_
    cases x with
    | d d => exact f d S ι' H' v g sr xr (h.later g)
    | tl ds =>
      obtain ⟨a, vs, e, n0, ha, hn, r⟩ := xr
      subst e
      obtain ⟨g2, sr2, dr2⟩ := number (o := .lst ds) g sr n0 hn ⟨vs, ha, r⟩
      exact f (.ref S.length) (S ++ [.lst ds]) _ H' _ g2 sr2 dr2 ((show RQ K mg ι H (k (.ref S.length) (S ++ [.lst ds])) Q from h).later g2)
/-- ONE STEP, where a just made list stays as it is -/
theorem bindX {r : R XR} {k : XR → Sto → R XR} {Q Q1 : VK} (h : RQ K mg ι H (r.bind k) Q)
    (f : ∀ x S1 ι1 H1 v, Gro K ι H ι1 H1 → SR K ι1 H1 mg S1 → XRel K ι1 H1 H x v → RQ K mg ι H (k x S1) Q → Q1 v H1) : RQ K mg ι H r Q1 := by
  cases r with
  | no => exact h.no.elim
  | ok x S => exact RQ.ok fun ι' H' v g sr xr => f x S ι' H' v g sr xr h
/-- an outcome that is a value, at the world as it stands -/
theorem RQ.here {d : D} {S : Sto} {Q : VK} (h : RQ K mg ι H (.ok (.d d) S) Q) (sr : SR K ι H mg S) {v : V} (dr : DR K ι H d v) : Q v H := h.use Gro.refl sr dr
/-- a list that is just made -/
theorem RQ.newL {ds : List D} {S : Sto} {Q : VK} (h : RQ K mg ι H (.ok (.tl ds) S) Q) (sr : SR K ι H mg S) {vs : List V} (dr : DRs K ι H ds vs) : ∀ p, H p = none → Q (.ref p) (upd H p (.lst vs)) := fun p hp => by
  have hn := sr.fresh hp
  have g : Gro K ι H ι (upd H p (.lst vs)) := Gro.laid hp hn
  exact h.use g (sr.grow g fun a ha u e => by rw [upd_ne (ne_of_none e hp)]; exact e) ⟨p, vs, rfl, hp, upd_same, hn, DRs.mono g.wk dr⟩
theorem RQ.newT {ds : List D} {S : Sto} {Q : VK} (h : RQ K mg ι H (.ok (.d (.tup ds)) S) Q) (sr : SR K ι H mg S) {vs : List V} (dr : DRs K ι H ds vs) : ∀ p, H p = none → Q (.ref p) (upd H p (.tup vs)) := fun p hp => by
  have hn := sr.fresh hp
  have g : Gro K ι H ι (upd H p (.tup vs)) := Gro.laid hp hn
  refine h.use g (sr.grow g fun a ha u e => by rw [upd_ne (ne_of_none e hp)]; exact e) ?_
  show DR K ι (upd H p (.tup vs)) (.tup ds) (.ref p)
  unfold DR
  exact ⟨p, vs, rfl, upd_same, DRs.mono g.wk dr⟩
end
/-- a reading by an evaluation -/
def tM (K : PySem.W.Frag) (mg : Str → Option Value) (m : Env → Sto → R XR) : TE := fun σ H Q => ∃ ι s S, SR K ι H mg S ∧ NR K ι H s σ ∧ RQ K mg ι H (m s S) Q
end Ev
/-! EvB: operators on values, with their soundness -/
namespace Ev
open PySem L2
section
variable {K : PySem.W.Frag} {ι : List Addr} {H : Hp} {mg : Str → Option Value}
theorem DR.non {v : V} (h : DR K ι H .non v) : v = .non := h
theorem DR.bl {b : Bool} {v : V} (h : DR K ι H (.bl b) v) : v = .bl b := h
theorem DR.int {i : Int} {v : V} (h : DR K ι H (.int i) v) : v = .int i := h
theorem DR.str {x : Str} {v : V} (h : DR K ι H (.str x) v) : v = .str x := h
theorem DR.tup {ds : List D} {v : V} (h : DR K ι H (.tup ds) v) : ∃ a vs, v = .ref a ∧ H a = some (.tup vs) ∧ DRs K ι H ds vs := h
theorem DR.kt {ds : List D} {v : V} (h : DR K ι H (.kt ds) v) : ∃ a vs, v = .ref a ∧ (∀ H', SqT K H' a vs) ∧ DRs K ι H ds vs := h
theorem DR.ref {n : Nat} {v : V} (h : DR K ι H (.ref n) v) : ∃ a, v = .ref a ∧ ι[n]? = some a := h
theorem SR.lst {S : Sto} (sr : SR K ι H mg S) {n : Nat} {a : Addr} {ds : List D} (e : S[n]? = some (.lst ds)) (h : ι[n]? = some a) : ∃ vs, H a = some (.lst vs) ∧ DRs K ι H ds vs := sr.obj n _ a e h
theorem SR.rol {S : Sto} (sr : SR K ι H mg S) {n : Nat} {a : Addr} {ds : List D} (e : S[n]? = some (.rol ds)) (h : ι[n]? = some a) : ∃ vs, Rd H a (.lst vs) ∧ DRs K ι H ds vs := sr.obj n _ a e h
/-- the items of a list, whether it may be written or not -/
def listAt (S : Sto) (n : Nat) : Option (List D) := match S[n]? with
  | some (.lst ds) => some ds
  | some (.rol ds) => some ds
  | _ => none
theorem SR.list {S : Sto} (sr : SR K ι H mg S) {n : Nat} {a : Addr} {ds : List D} (e : listAt S n = some ds) (h : ι[n]? = some a) : ∃ vs, SqL K H a vs ∧ DRs K ι H ds vs := by
  unfold listAt at e
  split at e
  · rename_i ds' e'
    cases e
    obtain ⟨vs, h1, h2⟩ := sr.lst e' h
    exact ⟨vs, SqL.of h1, h2⟩
  · rename_i ds' e'
    cases e
    obtain ⟨vs, h1, h2⟩ := sr.rol e' h
    exact ⟨vs, .inl h1, h2⟩
  · cases e
end

/-! ### + - * // % ** -/
def addD (d e : D) (S : Sto) : R XR := match d, e with
  | .int i, .int j => .ok (.d (.int (i + j))) S
  | .str x, .str y => if x.length + y.length ≤ BIG then .ok (.d (.str (x ++ y))) S else .no
  | .tup xs, .tup ys => if xs.length + ys.length ≤ BIG then .ok (.d (.tup (xs ++ ys))) S else .no
  | .ref n, .ref m => match S[n]?, S[m]? with
    | some (.lst xs), some (.lst ys) => if xs.length + ys.length ≤ BIG then .ok (.tl (xs ++ ys)) S else .no
    | _, _ => .no
  | _, _ => .no
def subD (d e : D) (S : Sto) : R XR := match d, e with
  | .int i, .int j => .ok (.d (.int (i - j))) S
  | _, _ => .no
def mulD (d e : D) (S : Sto) : R XR := match d, e with
  | .int i, .int j => if i.natAbs < 2 ^ 64 ∨ j.natAbs < 2 ^ 64 then .ok (.d (.int (i * j))) S else .no
  | .ref n, .int k => match S[n]? with
    | some (.lst xs) => if 0 ≤ k ∧ k ≤ 1000000 ∧ xs.length * k.toNat ≤ BIG then .ok (.tl (List.replicate k.toNat xs).flatten) S else .no
    | _ => .no
  | _, _ => .no
def fdivD (d e : D) (S : Sto) : R XR := match d, e with
  | .int i, .int j => if 0 < j ∧ j < 1073741824 then .ok (.d (.int (i / j))) S else .no
  | _, _ => .no
def modD (d e : D) (S : Sto) : R XR := match d, e with
  | .int i, .int j => if 0 < j then .ok (.d (.int (i % j))) S else .no
  | _, _ => .no
def powD (d e : D) (S : Sto) : R XR := match d, e with
  | .int i, .int j => if 0 ≤ j ∧ j ≤ 1000000 ∧ i.natAbs < 2 ^ 64 then .ok (.d (.int (i ^ j.toNat))) S else .no
  | _, _ => .no
def negD (d : D) (S : Sto) : R XR := match d with
  | .int i => .ok (.d (.int (-i))) S
  | _ => .no
section
variable {K : PySem.W.Frag} {ι : List Addr} {H : Hp} {mg : Str → Option Value} {X : Cx}
def rAddS : R2 := fun x y H Q => ∃ i j, x = V.str i ∧ y = V.str j ∧ i.length + j.length ≤ sizeLine ∧ Q (.str (i ++ j)) H
def rAddA (K : PySem.W.Frag) : R2 := fun x y H Q => rI0 (fun i j => .int (i + j)) x y H Q ∨ rAddS x y H Q ∨ rCatA K x y H Q ∨ rCat x y H Q
theorem op_addA : OpR X (binaryOp .Add) (rAddA X.K) := op_add.or (op_add_str.or (op_catA.or op_cat))
theorem sAdd {S : Sto} {d e : D} {v w : V} {Q : VK} (sr : SR K ι H mg S) (dv : DR K ι H d v) (dw : DR K ι H e w) (h : RQ K mg ι H (addD d e S) Q) : rAddA K v w H Q := by
  unfold addD at h
  split at h
  · cases dv.int; cases dw.int
    exact .inl ⟨_, _, rfl, rfl, h.here sr rfl⟩
  · split at h
    · rename_i hz
      cases dv.str; cases dw.str
      exact .inr (.inl ⟨_, _, rfl, rfl, big_le hz, h.here sr rfl⟩)
    · exact h.no.elim
  · split at h
    · rename_i xs ys hz
      obtain ⟨a, vs, rfl, qa, ra⟩ := dv.tup
      obtain ⟨b, ws, rfl, qb, rb⟩ := dw.tup
      have la := ra.length
      have lb := rb.length
      refine .inr (.inr (.inl ⟨a, b, vs, ws, rfl, rfl, SqT.of qa, SqT.of qb, by rw [la, lb]; exact big_le hz, fun e => ?_, fun _ e => ?_, fun _ _ => h.newT sr (ra.append rb)⟩))
      · subst e
        have e2 : xs = [] := List.eq_nil_of_length_eq_zero la.symm
        subst e2
        exact h.here sr ⟨b, ws, rfl, qb, rb⟩
      · subst e
        have e2 : ys = [] := List.eq_nil_of_length_eq_zero lb.symm
        subst e2
        rw [List.append_nil] at h
        exact h.here sr ⟨a, vs, rfl, qa, ra⟩
    · exact h.no.elim
  · split at h
    · rename_i xs ys e1 e2
      split at h
      · rename_i hz
        obtain ⟨a, rfl, ia⟩ := dv.ref
        obtain ⟨b, rfl, ib⟩ := dw.ref
        obtain ⟨vs, ha, ra⟩ := sr.lst e1 ia
        obtain ⟨ws, hb, rb⟩ := sr.lst e2 ib
        exact .inr (.inr (.inr ⟨a, b, vs, ws, rfl, rfl, ha, hb, by rw [ra.length, rb.length]; exact big_le hz, h.newL sr (ra.append rb)⟩))
      · exact h.no.elim
    · exact h.no.elim
  · exact h.no.elim
theorem sSub {S : Sto} {d e : D} {v w : V} {Q : VK} (sr : SR K ι H mg S) (dv : DR K ι H d v) (dw : DR K ι H e w) (h : RQ K mg ι H (subD d e S) Q) : rI0 (fun i j => .int (i - j)) v w H Q := by
  unfold subD at h
  split at h
  · cases dv.int; cases dw.int
    exact ⟨_, _, rfl, rfl, h.here sr rfl⟩
  · exact h.no.elim
theorem DRs.rep {xs : List D} {vs : List V} (h : DRs K ι H xs vs) : ∀ k : Nat, DRs K ι H (List.replicate k xs).flatten (List.replicate k vs).flatten
  | 0 => DRs.nil
  | k + 1 => by
    rw [List.replicate_succ, List.replicate_succ, List.flatten_cons, List.flatten_cons]
    exact h.append (DRs.rep h k)
def rMulA : R2 := fun x y H Q => rI CMul (fun i j => .int (i * j)) x y H Q ∨ rRep x y H Q
theorem op_mulA : OpR X (binaryOp .Mult) rMulA := op_mul.or op_rep
theorem sMul {S : Sto} {d e : D} {v w : V} {Q : VK} (sr : SR K ι H mg S) (dv : DR K ι H d v) (dw : DR K ι H e w) (h : RQ K mg ι H (mulD d e S) Q) : rMulA v w H Q := by
  unfold mulD at h
  split at h
  · split at h
    · rename_i hc
      cases dv.int; cases dw.int
      refine .inl ⟨_, _, rfl, rfl, ?_, h.here sr rfl⟩
      unfold CMul
      omega
    · exact h.no.elim
  · split at h
    · rename_i xs e1
      split at h
      · rename_i hz
        obtain ⟨a, rfl, ia⟩ := dv.ref
        cases dw.int
        obtain ⟨vs, ha, ra⟩ := sr.lst e1 ia
        refine .inr ⟨a, _, vs, rfl, rfl, ha, by omega, by omega, ?_, h.newL sr (ra.rep _)⟩
        rw [ra.length]; exact big_le hz.2.2
      · exact h.no.elim
    · exact h.no.elim
  · exact h.no.elim
theorem sFdiv {S : Sto} {d e : D} {v w : V} {Q : VK} (sr : SR K ι H mg S) (dv : DR K ι H d v) (dw : DR K ι H e w) (h : RQ K mg ι H (fdivD d e S) Q) : rI CDiv (fun i j => .int (i / j)) v w H Q := by
  unfold fdivD at h
  split at h
  · split at h
    · rename_i hc
      cases dv.int; cases dw.int
      exact ⟨_, _, rfl, rfl, hc, h.here sr rfl⟩
    · exact h.no.elim
  · exact h.no.elim
theorem sMod {S : Sto} {d e : D} {v w : V} {Q : VK} (sr : SR K ι H mg S) (dv : DR K ι H d v) (dw : DR K ι H e w) (h : RQ K mg ι H (modD d e S) Q) : rI (fun _ j => 0 < j) (fun i j => .int (i % j)) v w H Q := by
  unfold modD at h
  split at h
  · split at h
    · rename_i hc
      cases dv.int; cases dw.int
      exact ⟨_, _, rfl, rfl, hc, h.here sr rfl⟩
    · exact h.no.elim
  · exact h.no.elim
theorem sPow {S : Sto} {d e : D} {v w : V} {Q : VK} (sr : SR K ι H mg S) (dv : DR K ι H d v) (dw : DR K ι H e w) (h : RQ K mg ι H (powD d e S) Q) : rI CPow (fun i j => .int (i ^ j.toNat)) v w H Q := by
  unfold powD at h
  split at h
  · split at h
    · rename_i hc
      cases dv.int; cases dw.int
      exact ⟨_, _, rfl, rfl, hc, h.here sr rfl⟩
    · exact h.no.elim
  · exact h.no.elim
theorem sNeg {S : Sto} {d : D} {v : V} {Q : VK} (sr : SR K ι H mg S) (dv : DR K ι H d v) (h : RQ K mg ι H (negD d S) Q) : rU (fun i => .int (-i)) v H Q := by
  unfold negD at h
  split at h
  · cases dv.int
    exact ⟨_, rfl, h.here sr rfl⟩
  · exact h.no.elim
end

/-! ### comparisons -/
/-- a value as data, lists read through the store -/
def dataD (S : Sto) : Nat → D → Option PyData
  | 0, _ => none
  | n + 1, d => match d with
    | .non => some .none
    | .bl b => some (.bool b)
    | .int i => some (.int i)
    | .str x => some (.str x)
    | .tup ds => (ds.mapM (dataD S n)).map .tuple
    | .kt ds => (ds.mapM (dataD S n)).map .tuple
    | .ref m => match listAt S m with
      | some ds => (ds.mapM (dataD S n)).map .list
      | none => none
def eqB (d e : D) (S : Sto) : Option Bool := match dataD S 66 d, dataD S 66 e with
  | some x, some y => if SeqAt.shaped x = true ∧ SeqAt.shaped y = true then some (PyData.eqv x y) else none
  | _, _ => none
def blR (o : Option Bool) (S : Sto) : R XR := match o with
  | some b => .ok (.d (.bl b)) S
  | none => .no
def eqD (d e : D) (S : Sto) : R XR := blR (eqB d e S) S
def neD (d e : D) (S : Sto) : R XR := blR ((eqB d e S).map (!·)) S
def ltB : D → D → Option Bool
  | .int i, .int j => some (decide (i < j))
  | .str x, .str y => some (decide (x.cps.toList < y.cps.toList))
  | _, _ => none
def ltD (d e : D) (S : Sto) : R XR := blR (ltB d e) S
def gtD (d e : D) (S : Sto) : R XR := blR (ltB e d) S
def leD (d e : D) (S : Sto) : R XR := match d, e with
  | .int i, .int j => .ok (.d (.bl (decide (i ≤ j)))) S
  | _, _ => .no
def geD (d e : D) (S : Sto) : R XR := match d, e with
  | .int i, .int j => .ok (.d (.bl (decide (j ≤ i)))) S
  | _, _ => .no
def flatD : D → Bool
  | .non => true
  | .bl _ => true
  | .int _ => true
  | .str _ => true
  | _ => false
def eqF : D → D → Bool
  | .non, .non => true
  | .bl a, .bl b => a == b
  | .bl a, .int b => (if a then 1 else 0) == b
  | .int a, .bl b => a == (if b then 1 else 0)
  | .int a, .int b => a == b
  | .str a, .str b => a == b
  | _, _ => false
/-- in a list or tuple of flat items -/
def inF (d : D) (ds : List D) : Option Bool := if flatD d = true ∧ ds.all flatD = true then some (ds.any fun y => eqF y d) else none
/-- a dict's content -/
def dctAt (S : Sto) (n : Nat) : Option (List (D × D)) := match S[n]? with
  | some (.dct kvs) => some kvs
  | some (.rod kvs) => some kvs
  | _ => none
def isNon : D → Bool
  | .non => true
  | _ => false
def isB (d e : D) : Option Bool := match d, e with
  | d, .non => some (isNon d)
  | .bl a, .bl b => some (decide (a = b))
  | _, _ => none
def isD (d e : D) (S : Sto) : R XR := blR (isB d e) S
def isNotD (d e : D) (S : Sto) : R XR := blR ((isB d e).map (!·)) S
section
variable {K : PySem.W.Frag} {ι : List Addr} {H : Hp} {mg : Str → Option Value} {X : Cx}
theorem blR_use {S : Sto} {o : Option Bool} {Q : VK} (sr : SR K ι H mg S) (h : RQ K mg ι H (blR o S) Q) : ∃ b, o = some b ∧ Q (.bl b) H := by
  unfold blR at h
  split at h
  · rename_i b
    exact ⟨b, rfl, h.here sr rfl⟩
  · exact h.no.elim
theorem DpAll.of {S : Sto} {n : Nat} (ih : ∀ d x v, dataD S n d = some x → DR K ι H d v → Dp K H v x) : ∀ (ds : List D) (xs : List PyData) (vs : List V), ds.mapM (dataD S n) = some xs → DRs K ι H ds vs → DpAll K H vs xs
  | [], xs, vs, h, r => by
    rw [DRs.nil_iff.mp r]
    have e : xs = [] := by simpa using h.symm
    rw [e]; exact .nil
  | d :: ds, xs, vs, h, r => by
    obtain ⟨w, ws, rfl, q, r⟩ := DRs.cons_iff.mp r
    rw [List.mapM_cons] at h
    cases h1 : dataD S n d with
    | none => rw [h1] at h; simp at h
    | some x =>
      cases h2 : ds.mapM (dataD S n) with
      | none => rw [h1, h2] at h; simp at h
      | some ys =>
        rw [h1, h2] at h
        have e : xs = x :: ys := by simpa using h.symm
        rw [e]
        exact .cons (ih d x w h1 q) (DpAll.of ih ds ys ws h2 r)
theorem Dp.of {S : Sto} (sr : SR K ι H mg S) : ∀ (n : Nat) (d : D) (x : PyData) (v : V), dataD S n d = some x → DR K ι H d v → Dp K H v x
  | 0, _, _, _, h, _ => by cases h
  | n + 1, d, x, v, h, r => by
    cases d with
    | non => cases h; cases r.non; exact .non
    | bl b => cases h; cases r.bl; exact .bl b
    | int i => cases h; cases r.int; exact .int i
    | str y => cases h; cases r.str; exact .str y
    | tup ds =>
      obtain ⟨a, vs, rfl, q, r⟩ := r.tup
      have h' : (ds.mapM (dataD S n)).map PyData.tuple = some x := h
      cases h2 : ds.mapM (dataD S n) with
      | none => rw [h2] at h'; cases h'
      | some xs =>
        rw [h2] at h'; cases h'
        exact .tup (SqT.of q) (DpAll.of (fun d x v => Dp.of sr n d x v) ds xs vs h2 r)
    | kt ds =>
      obtain ⟨a, vs, rfl, q, r⟩ := r.kt
      have h' : (ds.mapM (dataD S n)).map PyData.tuple = some x := h
      cases h2 : ds.mapM (dataD S n) with
      | none => rw [h2] at h'; cases h'
      | some xs =>
        rw [h2] at h'; cases h'
        exact .tup (q H) (DpAll.of (fun d x v => Dp.of sr n d x v) ds xs vs h2 r)
    | ref m =>
      obtain ⟨a, rfl, ia⟩ := r.ref
      have h' : (match listAt S m with | some ds => (ds.mapM (dataD S n)).map PyData.list | none => none) = some x := h
      cases h3 : listAt S m with
      | none => rw [h3] at h'; cases h'
      | some ds =>
        rw [h3] at h'
        replace h' : (ds.mapM (dataD S n)).map PyData.list = some x := h'
        obtain ⟨vs, q, r⟩ := sr.list h3 ia
        cases h2 : ds.mapM (dataD S n) with
        | none => rw [h2] at h'; cases h'
        | some xs =>
          rw [h2] at h'; cases h'
          exact .lst q (DpAll.of (fun d x v => Dp.of sr n d x v) ds xs vs h2 r)
theorem sEq {S : Sto} {d e : D} {v w : V} {Q : VK} (sr : SR K ι H mg S) (dv : DR K ι H d v) (dw : DR K ι H e w) (h : RQ K mg ι H (eqD d e S) Q) : rEqD K v w H Q := by
  obtain ⟨b, e1, q⟩ := blR_use sr h
  unfold eqB at e1
  split at e1
  · rename_i x y h1 h2
    split at e1
    · rename_i hs
      cases e1
      exact ⟨x, y, Dp.of sr _ _ _ _ h1 dv, Dp.of sr _ _ _ _ h2 dw, hs.1, hs.2, q⟩
    · cases e1
  · cases e1
theorem sNe {S : Sto} {d e : D} {v w : V} {Q : VK} (sr : SR K ι H mg S) (dv : DR K ι H d v) (dw : DR K ι H e w) (h : RQ K mg ι H (neD d e S) Q) : rNeD K v w H Q := by
  obtain ⟨b, e0, q⟩ := blR_use sr h
  cases e1 : eqB d e S with
  | none => rw [e1] at e0; cases e0
  | some c =>
    rw [e1] at e0; cases e0
    unfold eqB at e1
    split at e1
    · rename_i x y h1 h2
      split at e1
      · rename_i hs
        cases e1
        exact ⟨x, y, Dp.of sr _ _ _ _ h1 dv, Dp.of sr _ _ _ _ h2 dw, hs.1, hs.2, q⟩
      · cases e1
    · cases e1
def rLtA : R2 := fun x y H Q => rI0 (fun i j => .bl (decide (i < j))) x y H Q ∨ (∃ i j : Str, x = .str i ∧ y = .str j ∧ Q (.bl (decide (i.cps.toList < j.cps.toList))) H)
theorem op_ltA : OpR X (compareOp .Lt) rLtA := op_lt.or op_lt_str
def rGtA : R2 := fun x y H Q => rI0 (fun i j => .bl (decide (j < i))) x y H Q ∨ (∃ i j : Str, x = .str i ∧ y = .str j ∧ Q (.bl (decide (j.cps.toList < i.cps.toList))) H)
theorem op_gtA : OpR X (compareOp .Gt) rGtA := op_gt.or op_gt_str
theorem sLt {S : Sto} {d e : D} {v w : V} {Q : VK} (sr : SR K ι H mg S) (dv : DR K ι H d v) (dw : DR K ι H e w) (h : RQ K mg ι H (ltD d e S) Q) : rLtA v w H Q := by
  obtain ⟨b, e1, q⟩ := blR_use sr h
  unfold ltB at e1
  split at e1
  · cases e1; cases dv.int; cases dw.int; exact .inl ⟨_, _, rfl, rfl, q⟩
  · cases e1; cases dv.str; cases dw.str; exact .inr ⟨_, _, rfl, rfl, q⟩
  · cases e1
theorem sGt {S : Sto} {d e : D} {v w : V} {Q : VK} (sr : SR K ι H mg S) (dv : DR K ι H d v) (dw : DR K ι H e w) (h : RQ K mg ι H (gtD d e S) Q) : rGtA v w H Q := by
  obtain ⟨b, e1, q⟩ := blR_use sr h
  unfold ltB at e1
  split at e1
  · cases e1; cases dv.int; cases dw.int; exact .inl ⟨_, _, rfl, rfl, q⟩
  · cases e1; cases dv.str; cases dw.str; exact .inr ⟨_, _, rfl, rfl, q⟩
  · cases e1
theorem sLe {S : Sto} {d e : D} {v w : V} {Q : VK} (sr : SR K ι H mg S) (dv : DR K ι H d v) (dw : DR K ι H e w) (h : RQ K mg ι H (leD d e S) Q) : rI0 (fun i j => .bl (decide (i ≤ j))) v w H Q := by
  unfold leD at h
  split at h
  · cases dv.int; cases dw.int; exact ⟨_, _, rfl, rfl, h.here sr rfl⟩
  · exact h.no.elim
theorem sGe {S : Sto} {d e : D} {v w : V} {Q : VK} (sr : SR K ι H mg S) (dv : DR K ι H d v) (dw : DR K ι H e w) (h : RQ K mg ι H (geD d e S) Q) : rI0 (fun i j => .bl (decide (j ≤ i))) v w H Q := by
  unfold geD at h
  split at h
  · cases dv.int; cases dw.int; exact ⟨_, _, rfl, rfl, h.here sr rfl⟩
  · exact h.no.elim
def rIsA : R2 := fun x y H Q => (y = .non ∧ Q (.bl (decide (x = .non))) H) ∨ rIsB x y H Q
theorem op_isA : OpR X (compareOp .Is) rIsA := op_isN.or op_isBl
def rIsNotA : R2 := fun x y H Q => (y = .non ∧ Q (.bl (!decide (x = .non))) H) ∨ rNotB x y H Q
theorem op_isNotA : OpR X (compareOp .IsNot) rIsNotA := op_notN.or op_notBl
theorem isN_of {d : D} {v : V} (dv : DR K ι H d v) : decide (v = .non) = isNon d := by
  cases d with
  | non => cases dv.non; rfl
  | bl b => cases dv.bl; rfl
  | int b => cases dv.int; rfl
  | str b => cases dv.str; rfl
  | tup ds => obtain ⟨a, vs, rfl, _⟩ := dv.tup; rfl
  | kt ds => obtain ⟨a, vs, rfl, _⟩ := dv.kt; rfl
  | ref n => obtain ⟨a, rfl, _⟩ := dv.ref; rfl
theorem isB_cases {d e : D} {b : Bool} (h : isB d e = some b) : (e = .non ∧ b = isNon d) ∨ ∃ x y, d = .bl x ∧ e = .bl y ∧ b = decide (x = y) := by
  unfold isB at h
  split at h
  · exact .inl ⟨rfl, (Option.some.inj h).symm⟩
  · exact .inr ⟨_, _, rfl, rfl, (Option.some.inj h).symm⟩
  · cases h
theorem sIs {S : Sto} {d e : D} {v w : V} {Q : VK} (sr : SR K ι H mg S) (dv : DR K ι H d v) (dw : DR K ι H e w) (h : RQ K mg ι H (isD d e S) Q) : rIsA v w H Q := by
  obtain ⟨b, e1, q⟩ := blR_use sr h
  rcases isB_cases e1 with ⟨rfl, rfl⟩ | ⟨x, y, rfl, rfl, rfl⟩
  · cases dw.non
    exact .inl ⟨rfl, by rw [isN_of dv]; exact q⟩
  · cases dv.bl; cases dw.bl
    exact .inr ⟨_, _, rfl, rfl, q⟩
theorem sIsNot {S : Sto} {d e : D} {v w : V} {Q : VK} (sr : SR K ι H mg S) (dv : DR K ι H d v) (dw : DR K ι H e w) (h : RQ K mg ι H (isNotD d e S) Q) : rIsNotA v w H Q := by
  obtain ⟨b, e0, q⟩ := blR_use sr h
  cases e1 : isB d e with
  | none => rw [e1] at e0; cases e0
  | some c =>
    rw [e1] at e0; cases e0
    rcases isB_cases e1 with ⟨rfl, rfl⟩ | ⟨x, y, rfl, rfl, rfl⟩
    · cases dw.non
      exact .inl ⟨rfl, by rw [isN_of dv]; exact q⟩
    · cases dv.bl; cases dw.bl
      exact .inr ⟨_, _, rfl, rfl, q⟩
end
end Ev
/-! EvC: expressions, tests, arguments as evaluations -/
namespace Ev
open PySem L2

abbrev M := Env → Sto → R XR
abbrev MT := Env → Sto → R Bool
abbrev MA := Env → Sto → R (List D)

/-! ### combinators -/
def eC (d : D) : M := fun _ S => .ok (.d d) S
def eV (i : Nat) : M := fun s S => match s[i]? with
  | some (some d) => .ok (.d d) S
  | _ => .no
def eOp (f : D → D → Sto → R XR) (a b : M) : M := fun s S => (force (a s S)).bind fun d S1 => (force (b s S1)).bind fun e S2 => f d e S2
def eUn (f : D → Sto → R XR) (a : M) : M := fun s S => (force (a s S)).bind fun d S1 => f d S1
def truB (d : D) (S : Sto) : Option Bool := match d with
  | .non => some false
  | .bl b => some b
  | .int i => some (i != 0)
  | .str x => if x.length ≤ BIG then some ((x.length : Int) != 0) else none
  | .tup ds => some (!ds.isEmpty)
  | .kt ds => some (!ds.isEmpty)
  | .ref n => (listAt S n).map fun ds => !ds.isEmpty
/-- a value that must be a bool -/
def asB (d : D) (S : Sto) : R Bool := match d with
  | .bl b => .ok b S
  | _ => .no
def tVal (a : M) : MT := fun s S => (force (a s S)).bind fun d S1 => asB d S1
def tTru (a : M) : MT := fun s S => (force (a s S)).bind fun d S1 => match truB d S1 with
  | some b => .ok b S1
  | none => .no
def tNotM (t : MT) : MT := fun s S => (t s S).bind fun b S1 => .ok (!b) S1
def tAndM (t u : MT) : MT := fun s S => (t s S).bind fun b S1 => if b = true then u s S1 else .ok false S1
def tOrM (t u : MT) : MT := fun s S => (t s S).bind fun b S1 => if b = true then .ok true S1 else u s S1
/-- and, or of values, by truth -/
def eAndM (a b : M) : M := fun s S => (force (a s S)).bind fun d S1 => match truB d S1 with
  | some true => b s S1
  | some false => .ok (.d d) S1
  | none => .no
def eOrM (a b : M) : M := fun s S => (force (a s S)).bind fun d S1 => match truB d S1 with
  | some true => .ok (.d d) S1
  | some false => b s S1
  | none => .no
def eNotM (a : M) : M := fun s S => (force (a s S)).bind fun d S1 => match truB d S1 with
  | some b => .ok (.d (.bl (!b))) S1
  | none => .no
def eIf (t : MT) (a b : M) : M := fun s S => (t s S).bind fun c S1 => if c = true then a s S1 else b s S1
/-- a f b g c -/
def eChain (f g : D → D → Sto → R XR) (a b c : M) : M := fun s S => (force (a s S)).bind fun d S1 => (force (b s S1)).bind fun e S2 => (force (f d e S2)).bind fun z S3 =>
  (asB z S3).bind fun k S4 => if k = true then (force (c s S4)).bind fun x S5 => g e x S5 else .ok (.d (.bl false)) S4
def aNil : MA := fun _ S => .ok [] S
def aCons (a : M) (r : MA) : MA := fun s S => (force (a s S)).bind fun d S1 => (r s S1).bind fun ds S2 => .ok (d :: ds) S2
def eTup (as : MA) : M := fun s S => (as s S).bind fun ds S1 => if ds.length ≤ BIG then .ok (.d (.tup ds)) S1 else .no
def eLst (as : MA) : M := fun s S => (as s S).bind fun ds S1 => if ds.length ≤ BIG then .ok (.tl ds) S1 else .no

/-! ### readings -/
section
variable (K : PySem.W.Frag) (mg : Str → Option Value)
def RT (ι : List Addr) (H : Hp) (r : R Bool) (Q : Bool → Hp → Prop) : Prop :=
  ∃ b S', r = .ok b S' ∧ ∀ ι' H', Gro K ι H ι' H' → SR K ι' H' mg S' → Q b H'
def RA (ι : List Addr) (H : Hp) (r : R (List D)) (Q : List V → Hp → Prop) : Prop :=
  ∃ ds S', r = .ok ds S' ∧ ∀ ι' H' vs, Gro K ι H ι' H' → SR K ι' H' mg S' → DRs K ι' H' ds vs → Q vs H'
def tMT (m : MT) : TT := fun σ H Q => ∃ ι s S, SR K ι H mg S ∧ NR K ι H s σ ∧ RT K mg ι H (m s S) Q
def tMA (m : MA) : TA := fun σ H Q => ∃ ι s S, SR K ι H mg S ∧ NR K ι H s σ ∧ RA K mg ι H (m s S) Q
end
section
variable {K : PySem.W.Frag} {mg : Str → Option Value} {ι ι' : List Addr} {H H' : Hp} {X : Cx}
theorem RT.later {r : R Bool} {Q : Bool → Hp → Prop} (h : RT K mg ι H r Q) (g : Gro K ι H ι' H') : RT K mg ι' H' r Q := by
  obtain ⟨x, S', e, k⟩ := h
  exact ⟨x, S', e, fun ι2 H2 g2 sr => k ι2 H2 (g.trans g2) sr⟩
theorem RA.later {r : R (List D)} {Q : List V → Hp → Prop} (h : RA K mg ι H r Q) (g : Gro K ι H ι' H') : RA K mg ι' H' r Q := by
  obtain ⟨x, S', e, k⟩ := h
  exact ⟨x, S', e, fun ι2 H2 vs g2 sr dr => k ι2 H2 vs (g.trans g2) sr dr⟩
theorem RT.here {b : Bool} {S : Sto} {Q : Bool → Hp → Prop} (h : RT K mg ι H (.ok b S) Q) (sr : SR K ι H mg S) : Q b H := by
  obtain ⟨x, S', e, k⟩ := h
  cases e
  exact k ι H Gro.refl sr
theorem RT.no {Q : Bool → Hp → Prop} (h : RT K mg ι H .no Q) : False := by obtain ⟨_, _, e, _⟩ := h; cases e
theorem RA.no {Q : List V → Hp → Prop} (h : RA K mg ι H .no Q) : False := by obtain ⟨_, _, e, _⟩ := h; cases e
/-- a value first, then anything: W tells what is asked of what follows, and stays when more is known -/
theorem bindDG {β : Type} {r : R XR} {k : D → Sto → R β} {W : List Addr → Hp → R β → Prop} {Q1 : VK} (no : ∀ ι H, W ι H .no → False) (later : ∀ ι H ι' H' r, W ι H r → Gro K ι H ι' H' → W ι' H' r)
    (h : W ι H ((force r).bind k))
    (f : ∀ d S1 ι1 H1 v, Gro K ι H ι1 H1 → SR K ι1 H1 mg S1 → DR K ι1 H1 d v → W ι1 H1 (k d S1) → Q1 v H1) : RQ K mg ι H r Q1 := by
  cases r with
  | no => exact (no _ _ h).elim
  | ok x S =>
    refine RQ.ok fun ι' H' v g sr xr => ?_
    cases x with
    | d d => exact f d S ι' H' v g sr xr (later _ _ _ _ _ h g)
    | tl ds =>
      obtain ⟨a, vs, e, n0, ha, hn, r⟩ := xr
      subst e
      obtain ⟨g2, sr2, dr2⟩ := number (o := .lst ds) g sr n0 hn ⟨vs, ha, r⟩
      exact f (.ref S.length) (S ++ [.lst ds]) _ H' _ g2 sr2 dr2 (later _ _ _ _ _ (show W ι H (k (.ref S.length) (S ++ [.lst ds])) from h) g2)
theorem bindDT {r : R XR} {k : D → Sto → R Bool} {Q : Bool → Hp → Prop} {Q1 : VK} (h : RT K mg ι H ((force r).bind k) Q)
    (f : ∀ d S1 ι1 H1 v, Gro K ι H ι1 H1 → SR K ι1 H1 mg S1 → DR K ι1 H1 d v → RT K mg ι1 H1 (k d S1) Q → Q1 v H1) : RQ K mg ι H r Q1 :=
  bindDG (W := fun ι H r => RT K mg ι H r Q) (fun _ _ => RT.no) (fun _ _ _ _ _ h g => h.later g) h f
theorem bindDA {r : R XR} {k : D → Sto → R (List D)} {Q : List V → Hp → Prop} {Q1 : VK} (h : RA K mg ι H ((force r).bind k) Q)
    (f : ∀ d S1 ι1 H1 v, Gro K ι H ι1 H1 → SR K ι1 H1 mg S1 → DR K ι1 H1 d v → RA K mg ι1 H1 (k d S1) Q → Q1 v H1) : RQ K mg ι H r Q1 :=
  bindDG (W := fun ι H r => RA K mg ι H r Q) (fun _ _ => RA.no) (fun _ _ _ _ _ h g => h.later g) h f
/-- a test first -/
theorem bindTG {β : Type} {r : R Bool} {k : Bool → Sto → R β} {W : List Addr → Hp → R β → Prop} {Q1 : Bool → Hp → Prop} (no : ∀ ι H, W ι H .no → False) (later : ∀ ι H ι' H' r, W ι H r → Gro K ι H ι' H' → W ι' H' r)
    (h : W ι H (r.bind k)) (f : ∀ b S1 ι1 H1, Gro K ι H ι1 H1 → SR K ι1 H1 mg S1 → W ι1 H1 (k b S1) → Q1 b H1) : RT K mg ι H r Q1 := by
  cases r with
  | no => exact (no _ _ h).elim
  | ok x S => exact ⟨x, S, rfl, fun ι' H' g sr => f x S ι' H' g sr (later _ _ _ _ _ h g)⟩
/-- arguments first -/
theorem bindAG {β : Type} {r : R (List D)} {k : List D → Sto → R β} {W : List Addr → Hp → R β → Prop} {Q1 : List V → Hp → Prop} (no : ∀ ι H, W ι H .no → False) (later : ∀ ι H ι' H' r, W ι H r → Gro K ι H ι' H' → W ι' H' r)
    (h : W ι H (r.bind k)) (f : ∀ ds S1 ι1 H1 vs, Gro K ι H ι1 H1 → SR K ι1 H1 mg S1 → DRs K ι1 H1 ds vs → W ι1 H1 (k ds S1) → Q1 vs H1) : RA K mg ι H r Q1 := by
  cases r with
  | no => exact (no _ _ h).elim
  | ok x S => exact ⟨x, S, rfl, fun ι' H' vs g sr dr => f x S ι' H' vs g sr dr (later _ _ _ _ _ h g)⟩
theorem bindTQ {r : R Bool} {k : Bool → Sto → R XR} {Q : VK} {Q1 : Bool → Hp → Prop} (h : RQ K mg ι H (r.bind k) Q)
    (f : ∀ b S1 ι1 H1, Gro K ι H ι1 H1 → SR K ι1 H1 mg S1 → RQ K mg ι1 H1 (k b S1) Q → Q1 b H1) : RT K mg ι H r Q1 :=
  bindTG (W := fun ι H r => RQ K mg ι H r Q) (fun _ _ => RQ.no) (fun _ _ _ _ _ h g => h.later g) h f
theorem bindTT {r : R Bool} {k : Bool → Sto → R Bool} {Q : Bool → Hp → Prop} {Q1 : Bool → Hp → Prop} (h : RT K mg ι H (r.bind k) Q)
    (f : ∀ b S1 ι1 H1, Gro K ι H ι1 H1 → SR K ι1 H1 mg S1 → RT K mg ι1 H1 (k b S1) Q → Q1 b H1) : RT K mg ι H r Q1 :=
  bindTG (W := fun ι H r => RT K mg ι H r Q) (fun _ _ => RT.no) (fun _ _ _ _ _ h g => h.later g) h f
theorem bindAQ {r : R (List D)} {k : List D → Sto → R XR} {Q : VK} {Q1 : List V → Hp → Prop} (h : RQ K mg ι H (r.bind k) Q)
    (f : ∀ ds S1 ι1 H1 vs, Gro K ι H ι1 H1 → SR K ι1 H1 mg S1 → DRs K ι1 H1 ds vs → RQ K mg ι1 H1 (k ds S1) Q → Q1 vs H1) : RA K mg ι H r Q1 :=
  bindAG (W := fun ι H r => RQ K mg ι H r Q) (fun _ _ => RQ.no) (fun _ _ _ _ _ h g => h.later g) h f
theorem bindAA {r : R (List D)} {k : List D → Sto → R (List D)} {Q : List V → Hp → Prop} {Q1 : List V → Hp → Prop} (h : RA K mg ι H (r.bind k) Q)
    (f : ∀ ds S1 ι1 H1 vs, Gro K ι H ι1 H1 → SR K ι1 H1 mg S1 → DRs K ι1 H1 ds vs → RA K mg ι1 H1 (k ds S1) Q → Q1 vs H1) : RA K mg ι H r Q1 :=
  bindAG (W := fun ι H r => RA K mg ι H r Q) (fun _ _ => RA.no) (fun _ _ _ _ _ h g => h.later g) h f

theorem pe_imp {e : Expr} {t t' : TE} (h : PE X e t) (k : ∀ σ H Q, t' σ H Q → t σ H Q) : PE X e t' := ⟨fun pins s σ H Q I q => h.run pins s σ H Q I (k _ _ _ q)⟩
theorem pt_imp {e : Expr} {t t' : TT} (h : PT X e t) (k : ∀ σ H Q, t' σ H Q → t σ H Q) : PT X e t' := ⟨fun pins s σ H Q I q => h.run pins s σ H Q I (k _ _ _ q)⟩
theorem pw_imp {e : Expr} {t t' : TT} (h : PW X e t) (k : ∀ σ H Q, t' σ H Q → t σ H Q) : PW X e t' := ⟨fun w pins s σ H Q I q => h.run w pins s σ H Q I (k _ _ _ q)⟩
theorem pa_imp {es : List Expr} {t t' : TA} (h : PA X es t) (k : ∀ σ H Q, t' σ H Q → t σ H Q) : PA X es t' := ⟨fun pos pins s σ H Q I q => h.run pos pins s σ H Q I (k _ _ _ q)⟩

/-- e is evaluated by m -/
abbrev SE (X : Cx) (e : Expr) (m : M) : Prop := PE X e (tM X.K X.mg m)
abbrev STe (X : Cx) (e : Expr) (m : MT) : Prop := PT X e (tMT X.K X.mg m)
abbrev SW (X : Cx) (e : Expr) (m : MT) : Prop := PW X e (tMT X.K X.mg m)
abbrev SA (X : Cx) (es : List Expr) (m : MA) : Prop := PA X es (tMA X.K X.mg m)

theorem se_var {i : Nat} {x : Str} {pos : Pos} (hN : X.N[i]? = some x) (hv : Vis X.env.scope x) (hd : (x == ("__debug__" : Str)) = false) (hcd : (x == ("__classdict__" : Str)) = false) : SE X (.Name x pos) (eV i) :=
  pe_imp (pe_var hN hv hd hcd) fun σ H Q ⟨ι, s, S, sr, nr, h⟩ => by
    unfold eV at h
    split at h
    · rename_i d e
      obtain ⟨v, h1, h2⟩ := nr.2 i d e
      exact ⟨v, h1, h.here sr h2⟩
    · exact h.no.elim
theorem se_c {e : Expr} {v : V} {d : D} (h : PE X e (tC v)) (k : ∀ ι H, DR X.K ι H d v) : SE X e (eC d) :=
  pe_imp h fun σ H Q ⟨ι, s, S, sr, nr, h⟩ => (show RQ _ _ ι H (.ok (.d d) S) Q from h).here sr (k ι H)
theorem se_int {i j pos} : SE X (.Constant (.int i) j pos) (eC (.int i)) := se_c pe_int fun _ _ => rfl
theorem se_bl {i j pos} : SE X (.Constant (.bool i) j pos) (eC (.bl i)) := se_c pe_bl fun _ _ => rfl
theorem se_non {j pos} : SE X (.Constant .none j pos) (eC .non) := se_c pe_non fun _ _ => rfl
theorem se_str {i j pos} : SE X (.Constant (.str i) j pos) (eC (.str i)) := se_c pe_str fun _ _ => rfl
/-- two values, then an operation by a rule on values -/
theorem op_tM {a b : Expr} {ma mb : M} {f : D → D → Sto → R XR} {r : R2} (k : ∀ {ι H S d e v w Q}, SR X.K ι H X.mg S → DR X.K ι H d v → DR X.K ι H e w → RQ X.K X.mg ι H (f d e S) Q → r v w H Q) :
    ∀ σ H Q, tM X.K X.mg (eOp f ma mb) σ H Q → tOp r (tM X.K X.mg ma) (tM X.K X.mg mb) σ H Q := fun σ H Q ⟨ι, s, S, sr, nr, h⟩ =>
  ⟨ι, s, S, sr, nr, bindD h fun d S1 ι1 H1 v g1 sr1 dr1 h1 => ⟨ι1, s, S1, sr1, nr.mono g1.wk, bindD h1 fun e S2 ι2 H2 w g2 sr2 dr2 h2 => k sr2 (dr1.mono g2.wk) dr2 h2⟩⟩
theorem se_op {a b : Expr} {op : Operator} {pos : Pos} {ma mb : M} {f : D → D → Sto → R XR} {r : R2} (ho : OpR X (binaryOp op) r)
    (k : ∀ {ι H S d e v w Q}, SR X.K ι H X.mg S → DR X.K ι H d v → DR X.K ι H e w → RQ X.K X.mg ι H (f d e S) Q → r v w H Q) (ha : SE X a ma) (hb : SE X b mb) : SE X (.BinOp a op b pos) (eOp f ma mb) :=
  pe_imp (pe_op ho ha hb) (op_tM (a := a) (b := b) k)
theorem se_neg {a : Expr} {pos : Pos} {ma : M} (ha : SE X a ma) : SE X (.UnaryOp .USub a pos) (eUn negD ma) :=
  pe_imp (pe_un un_neg ha) fun σ H Q ⟨ι, s, S, sr, nr, h⟩ => ⟨ι, s, S, sr, nr, bindD h fun d S1 ι1 H1 v g1 sr1 dr1 h1 => sNeg sr1 dr1 h1⟩
theorem se_cmp {a b : Expr} {op : CmpOp} {pos : Pos} {ma mb : M} {f : D → D → Sto → R XR} {r : R2} (ho : OpR X (compareOp op) r)
    (k : ∀ {ι H S d e v w Q}, SR X.K ι H X.mg S → DR X.K ι H d v → DR X.K ι H e w → RQ X.K X.mg ι H (f d e S) Q → r v w H Q) (hm : behindInMarks op b = false) (ha : SE X a ma) (hb : SE X b mb) : SE X (.Compare a [op] [b] pos) (eOp f ma mb) :=
  pe_imp (pe_cmpR ho ha hb hm) (op_tM (a := a) (b := b) k)
/-- a value that is a bool, as a test -/
theorem tTest_of {m : M} {t : TE} (k : ∀ σ H Q, tM X.K X.mg m σ H Q → t σ H Q) : ∀ σ H Q, tMT X.K X.mg (tVal m) σ H Q → tTest t σ H Q := fun σ H Q ⟨ι, s, S, sr, nr, h⟩ =>
  k σ H _ ⟨ι, s, S, sr, nr, bindDT h fun d S1 ι1 H1 v g1 sr1 dr1 h1 => by
    unfold asB at h1
    split at h1
    · exact ⟨_, dr1.bl, h1.here sr1⟩
    · exact h1.no.elim⟩
theorem st_cmp {a b : Expr} {op : CmpOp} {pos : Pos} {ma mb : M} {f : D → D → Sto → R XR} {r : R2} (ho : OpR X (compareOp op) r)
    (k : ∀ {ι H S d e v w Q}, SR X.K ι H X.mg S → DR X.K ι H d v → DR X.K ι H e w → RQ X.K X.mg ι H (f d e S) Q → r v w H Q) (hm : behindInMarks op b = false) (ha : SE X a ma) (hb : SE X b mb) : STe X (.Compare a [op] [b] pos) (tVal (eOp f ma mb)) :=
  pt_imp (pt_cmpR ho ha hb hm) (tTest_of (op_tM (a := a) (b := b) k))
theorem chain_tM {ma mb mc : M} {f g : D → D → Sto → R XR} {r r' : R2} (k : ∀ {ι H S d e v w Q}, SR X.K ι H X.mg S → DR X.K ι H d v → DR X.K ι H e w → RQ X.K X.mg ι H (f d e S) Q → r v w H Q)
    (k' : ∀ {ι H S d e v w Q}, SR X.K ι H X.mg S → DR X.K ι H d v → DR X.K ι H e w → RQ X.K X.mg ι H (g d e S) Q → r' v w H Q) :
    ∀ σ H Q, tM X.K X.mg (eChain f g ma mb mc) σ H Q → tChain r r' (tM X.K X.mg ma) (tM X.K X.mg mb) (tM X.K X.mg mc) σ H Q := fun σ H Q ⟨ι, s, S, sr, nr, h⟩ =>
  ⟨ι, s, S, sr, nr, bindD h fun d S1 ι1 H1 v g1 sr1 dr1 h1 => ⟨ι1, s, S1, sr1, nr.mono g1.wk, bindD h1 fun e S2 ι2 H2 w g2 sr2 dr2 h2 => k sr2 (dr1.mono g2.wk) dr2 (bindD h2 fun z S3 ι3 H3 u g3 sr3 dr3 h3 => by
    unfold asB at h3
    split at h3
    · rename_i b
      refine ⟨b, dr3.bl, ?_⟩
      cases b with
      | true =>
        rw [if_pos rfl]
        exact ⟨ι3, s, S3, sr3, ((nr.mono g1.wk).mono g2.wk).mono g3.wk, bindD (show RQ X.K X.mg ι3 H3 ((force (mc s S3)).bind fun x S5 => g e x S5) Q from h3) fun x S4 ι4 H4 y g4 sr4 dr4 h4 => k' sr4 ((dr2.mono g3.wk).mono g4.wk) dr4 h4⟩
      | false =>
        rw [if_neg Bool.false_ne_true]
        exact (show RQ X.K X.mg ι3 H3 (.ok (.d (.bl false)) S3) Q from h3).here sr3 rfl
    · exact (show RQ X.K X.mg ι3 H3 .no Q from h3).no.elim)⟩⟩
theorem se_chain {a b c : Expr} {op op' : CmpOp} {pos : Pos} {ma mb mc : M} {f g : D → D → Sto → R XR} {r r' : R2} (ho : OpR X (compareOp op) r) (ho' : OpR X (compareOp op') r')
    (k : ∀ {ι H S d e v w Q}, SR X.K ι H X.mg S → DR X.K ι H d v → DR X.K ι H e w → RQ X.K X.mg ι H (f d e S) Q → r v w H Q)
    (k' : ∀ {ι H S d e v w Q}, SR X.K ι H X.mg S → DR X.K ι H d v → DR X.K ι H e w → RQ X.K X.mg ι H (g d e S) Q → r' v w H Q) (hm : lastMarks [op, op'] [b, c] = false) (ha : SE X a ma) (hb : SE X b mb) (hc : SE X c mc) :
    SE X (.Compare a [op, op'] [b, c] pos) (eChain f g ma mb mc) := pe_imp (pe_chain ho ho' ha hb hc hm) (chain_tM k k')
theorem st_chain {a b c : Expr} {op op' : CmpOp} {pos : Pos} {ma mb mc : M} {f g : D → D → Sto → R XR} {r r' : R2} (ho : OpR X (compareOp op) r) (ho' : OpR X (compareOp op') r')
    (k : ∀ {ι H S d e v w Q}, SR X.K ι H X.mg S → DR X.K ι H d v → DR X.K ι H e w → RQ X.K X.mg ι H (f d e S) Q → r v w H Q)
    (k' : ∀ {ι H S d e v w Q}, SR X.K ι H X.mg S → DR X.K ι H d v → DR X.K ι H e w → RQ X.K X.mg ι H (g d e S) Q → r' v w H Q) (hm : lastMarks [op, op'] [b, c] = false) (ha : SE X a ma) (hb : SE X b mb) (hc : SE X c mc) :
    STe X (.Compare a [op, op'] [b, c] pos) (tVal (eChain f g ma mb mc)) := pt_imp (pt_chain ho ho' ha hb hc hm) (tTest_of (chain_tM k k'))
theorem truV_of {S : Sto} {d : D} {v : V} {b : Bool} (sr : SR K ι H mg S) (dv : DR K ι H d v) (h : truB d S = some b) : TruV K v H b := by
  cases d with
  | non => cases dv.non; exact (Option.some.inj h).symm
  | bl c => cases dv.bl; exact (Option.some.inj h).symm
  | int i => cases dv.int; exact (Option.some.inj h).symm
  | str x =>
    cases dv.str
    have h' : (if x.length ≤ BIG then some ((x.length : Int) != 0) else none) = some b := h
    split at h'
    · rename_i hz
      exact ⟨big_le hz, (Option.some.inj h').symm⟩
    · cases h'
  | tup ds =>
    obtain ⟨a, vs, rfl, q, r⟩ := dv.tup
    refine .inr (.inl ⟨vs, SqT.of q, ?_⟩)
    have e : (!ds.isEmpty) = b := Option.some.inj h
    rw [← e]
    cases ds with
    | nil => rw [DRs.nil_iff.mp r]; rfl
    | cons d ds => obtain ⟨w, ws, rfl, _⟩ := DRs.cons_iff.mp r; rfl
  | kt ds =>
    obtain ⟨a, vs, rfl, q, r⟩ := dv.kt
    refine .inr (.inl ⟨vs, q H, ?_⟩)
    have e : (!ds.isEmpty) = b := Option.some.inj h
    rw [← e]
    cases ds with
    | nil => rw [DRs.nil_iff.mp r]; rfl
    | cons d ds => obtain ⟨w, ws, rfl, _⟩ := DRs.cons_iff.mp r; rfl
  | ref n =>
    obtain ⟨a, rfl, ia⟩ := dv.ref
    have h' : (listAt S n).map (fun ds => !ds.isEmpty) = some b := h
    cases h1 : listAt S n with
    | none => rw [h1] at h'; cases h'
    | some ds =>
      rw [h1] at h'
      have e : (!ds.isEmpty) = b := Option.some.inj h'
      obtain ⟨vs, q, r⟩ := sr.list h1 ia
      refine .inl ⟨vs, q, ?_⟩
      rw [← e]
      cases ds with
      | nil => rw [DRs.nil_iff.mp r]; rfl
      | cons d ds => obtain ⟨w, ws, rfl, _⟩ := DRs.cons_iff.mp r; rfl
theorem st_truth {a : Expr} {ma : M} (ha : SE X a ma) (he : ∀ whole, isTrue a X.env whole = (do let v ← whole; standAt a.pos; holding [v] (truthy v))) : STe X a (tTru ma) :=
  pt_imp (pt_truth ha he) fun σ H Q ⟨ι, s, S, sr, nr, h⟩ => ⟨ι, s, S, sr, nr, bindDT h fun d S1 ι1 H1 v g1 sr1 dr1 h1 => by
    split at h1
    · rename_i b e
      exact ⟨b, truV_of sr1 dr1 e, h1.here sr1⟩
    · exact h1.no.elim⟩
theorem st_not {a : Expr} {pos : Pos} {ma : MT} (ha : STe X a ma) : STe X (.UnaryOp .Not a pos) (tNotM ma) :=
  pt_imp (pt_not ha) fun σ H Q ⟨ι, s, S, sr, nr, h⟩ => ⟨ι, s, S, sr, nr, bindTT h fun b S1 ι1 H1 g1 sr1 h1 => h1.here sr1⟩
theorem sw_and1 {a : Expr} {pos : Pos} {ma : MT} (ha : STe X a ma) : SW X (.BoolOp .And [a] pos) ma := pw_and1 ha
theorem sw_or1 {a : Expr} {pos : Pos} {ma : MT} (ha : STe X a ma) : SW X (.BoolOp .Or [a] pos) ma := pw_or1 ha
theorem sw_and {a b : Expr} {rest : List Expr} {pos : Pos} {ma mb : MT} (ha : STe X a ma) (hb : SW X (.BoolOp .And (b :: rest) pos) mb) : SW X (.BoolOp .And (a :: b :: rest) pos) (tAndM ma mb) :=
  pw_imp (pw_and ha hb) fun σ H Q ⟨ι, s, S, sr, nr, h⟩ => ⟨ι, s, S, sr, nr, bindTT h fun b S1 ι1 H1 g1 sr1 h1 => by
    cases b with
    | true => rw [if_pos rfl] at h1 ⊢; exact ⟨ι1, s, S1, sr1, nr.mono g1.wk, h1⟩
    | false => rw [if_neg Bool.false_ne_true] at h1 ⊢; exact h1.here sr1⟩
theorem sw_or {a b : Expr} {rest : List Expr} {pos : Pos} {ma mb : MT} (ha : STe X a ma) (hb : SW X (.BoolOp .Or (b :: rest) pos) mb) : SW X (.BoolOp .Or (a :: b :: rest) pos) (tOrM ma mb) :=
  pw_imp (pw_or ha hb) fun σ H Q ⟨ι, s, S, sr, nr, h⟩ => ⟨ι, s, S, sr, nr, bindTT h fun b S1 ι1 H1 g1 sr1 h1 => by
    cases b with
    | true => rw [if_pos rfl] at h1 ⊢; exact h1.here sr1
    | false => rw [if_neg Bool.false_ne_true] at h1 ⊢; exact ⟨ι1, s, S1, sr1, nr.mono g1.wk, h1⟩⟩
theorem se_one {a : Expr} {op} {pos : Pos} {ma : M} (ha : SE X a ma) : SE X (.BoolOp op [a] pos) ma := pe_one ha
theorem se_and {a b : Expr} {rest : List Expr} {pos : Pos} {ma mb : M} (ha : SE X a ma) (hb : SE X (.BoolOp .And (b :: rest) pos) mb) : SE X (.BoolOp .And (a :: b :: rest) pos) (eAndM ma mb) :=
  pe_imp (pe_andT ha hb) fun σ H Q ⟨ι, s, S, sr, nr, h⟩ => ⟨ι, s, S, sr, nr, bindD h fun d S1 ι1 H1 v g1 sr1 dr1 h1 => by
    split at h1
    · rename_i e
      exact ⟨true, truV_of sr1 dr1 e, by rw [if_pos rfl]; exact ⟨ι1, s, S1, sr1, nr.mono g1.wk, h1⟩⟩
    · rename_i e
      exact ⟨false, truV_of sr1 dr1 e, by rw [if_neg Bool.false_ne_true]; exact h1.here sr1 dr1⟩
    · exact h1.no.elim⟩
theorem se_or {a b : Expr} {rest : List Expr} {pos : Pos} {ma mb : M} (ha : SE X a ma) (hb : SE X (.BoolOp .Or (b :: rest) pos) mb) : SE X (.BoolOp .Or (a :: b :: rest) pos) (eOrM ma mb) :=
  pe_imp (pe_orT ha hb) fun σ H Q ⟨ι, s, S, sr, nr, h⟩ => ⟨ι, s, S, sr, nr, bindD h fun d S1 ι1 H1 v g1 sr1 dr1 h1 => by
    split at h1
    · rename_i e
      exact ⟨true, truV_of sr1 dr1 e, by rw [if_pos rfl]; exact h1.here sr1 dr1⟩
    · rename_i e
      exact ⟨false, truV_of sr1 dr1 e, by rw [if_neg Bool.false_ne_true]; exact ⟨ι1, s, S1, sr1, nr.mono g1.wk, h1⟩⟩
    · exact h1.no.elim⟩
theorem se_not {a : Expr} {pos : Pos} {ma : M} (ha : SE X a ma) : SE X (.UnaryOp .Not a pos) (eNotM ma) :=
  pe_imp (pe_notT ha) fun σ H Q ⟨ι, s, S, sr, nr, h⟩ => ⟨ι, s, S, sr, nr, bindD h fun d S1 ι1 H1 v g1 sr1 dr1 h1 => by
    split at h1
    · rename_i b e
      exact ⟨b, truV_of sr1 dr1 e, h1.here sr1 rfl⟩
    · exact h1.no.elim⟩
theorem se_if {c a b : Expr} {pos : Pos} {mc : MT} {ma mb : M} (hc : STe X c mc) (ha : SE X a ma) (hb : SE X b mb) : SE X (.IfExp c a b pos) (eIf mc ma mb) :=
  pe_imp (pe_ifExp hc ha hb) fun σ H Q ⟨ι, s, S, sr, nr, h⟩ => ⟨ι, s, S, sr, nr, bindTQ h fun b S1 ι1 H1 g1 sr1 h1 => by
    cases b with
    | true => rw [if_pos rfl] at h1 ⊢; exact ⟨ι1, s, S1, sr1, nr.mono g1.wk, h1⟩
    | false => rw [if_neg Bool.false_ne_true] at h1 ⊢; exact ⟨ι1, s, S1, sr1, nr.mono g1.wk, h1⟩⟩
theorem sa_nil : SA X [] aNil := pa_imp pa_nil fun σ H Q ⟨ι, s, S, sr, nr, h⟩ => by
  obtain ⟨x, S', e, k⟩ := h
  cases e
  exact k ι H [] Gro.refl sr DRs.nil
theorem sa_cons {e : Expr} {es : List Expr} {ma : M} {mr : MA} (ha : SE X e ma) (hr : SA X es mr) (hs : starEach (e :: es) X.env = (false, eval e X.env) :: starEach es X.env) : SA X (e :: es) (aCons ma mr) :=
  pa_imp (pa_cons ha hr hs) fun σ H Q ⟨ι, s, S, sr, nr, h⟩ => ⟨ι, s, S, sr, nr, bindDA h fun d S1 ι1 H1 v g1 sr1 dr1 h1 => ⟨ι1, s, S1, sr1, nr.mono g1.wk, bindAA h1 fun ds S2 ι2 H2 vs g2 sr2 dr2 h2 => by
    obtain ⟨x, S', e, k⟩ := h2
    cases e
    exact k ι2 H2 (v :: vs) Gro.refl sr2 (DRs.cons (dr1.mono g2.wk) dr2)⟩⟩
theorem se_tup {es : List Expr} {k : Nat} {pos : Pos} {ma : MA} (ha : SA X es ma) : SE X (.Tuple es k pos) (eTup ma) :=
  pe_imp (pe_tup ha) fun σ H Q ⟨ι, s, S, sr, nr, h⟩ => ⟨ι, s, S, sr, nr, bindAQ h fun ds S1 ι1 H1 vs g1 sr1 dr1 h1 => by
    split at h1
    · rename_i hz
      exact ⟨by rw [dr1.length]; exact big_le hz, h1.newT sr1 dr1⟩
    · exact h1.no.elim⟩
theorem se_lst {es : List Expr} {pos : Pos} {ma : MA} (ha : SA X es ma) : SE X (.List es pos) (eLst ma) :=
  pe_imp (pe_lst ha) fun σ H Q ⟨ι, s, S, sr, nr, h⟩ => ⟨ι, s, S, sr, nr, bindAQ h fun ds S1 ι1 H1 vs g1 sr1 dr1 h1 => by
    split at h1
    · rename_i hz
      exact ⟨by rw [dr1.length]; exact big_le hz, h1.newL sr1 dr1⟩
    · exact h1.no.elim⟩
end
end Ev
/-! EvD: dicts, subscripts, slices, in -/
namespace Ev
open PySem L2

abbrev DK := Sum Key (List Key)
def keyOf (d : D) : Option DK := match keyD d with
  | some k => some (.inl k)
  | none => (keyT d).map .inr
def sameK : DK → DK → Bool
  | .inl _, .inl _ => true
  | .inr _, .inr _ => true
  | _, _ => false
def isK (q : DK) (p : D × D) : Bool := decide (keyOf p.1 = some q)
def findK (kvs : List (D × D)) (q : DK) : Option D := (kvs.find? (isK q)).map (·.2)
/-- the dict's keys are of the kind of q (an empty one's are) -/
def kindOk (kvs : List (D × D)) (q : DK) : Bool := match kvs with
  | [] => true
  | p :: _ => match keyOf p.1 with
    | some q' => sameK q' q
    | none => false
/-- what the dict of number n holds at the key k -/
def getK (S : Sto) (n : Nat) (k : D) : Option (Option D) := match keyOf k with
  | none => none
  | some q => match S[n]? with
    | some (.dct kvs) => if kindOk kvs q = true then some (findK kvs q) else none
    | some (.rod kvs) => if kindOk kvs q = true ∧ kvs.isEmpty = false then some (findK kvs q) else none
    | _ => none
def putK (kvs : List (D × D)) (q : DK) (k v : D) : List (D × D) := if kvs.any (isK q) = true then kvs.map (fun p => if isK q p = true then (p.1, v) else p) else kvs ++ [(k, v)]

section
variable {K : PySem.W.Frag} {ι : List Addr} {H : Hp} {mg : Str → Option Value} {X : Cx}
theorem keyD_kV {d : D} {k : Key} {v : V} (h : keyD d = some k) (dv : DR K ι H d v) : v = kV k := by
  cases d with
  | int i => cases h; exact dv.int
  | str x => cases h; exact dv.str
  | _ => cases h
theorem keysD_kV : ∀ {ds : List D} {ks : List Key} {vs : List V}, keysD ds = some ks → DRs K ι H ds vs → vs = ks.map kV
  | [], ks, vs, h, r => by
    cases h
    rw [DRs.nil_iff.mp r]; rfl
  | d :: ds, ks, vs, h, r => by
    obtain ⟨w, ws, rfl, q, r⟩ := DRs.cons_iff.mp r
    have h' : (match keyD d, keysD ds with | some k, some ks => some (k :: ks) | _, _ => none) = some ks := h
    cases h1 : keyD d with
    | none => rw [h1] at h'; cases h'
    | some k =>
      cases h2 : keysD ds with
      | none => rw [h1, h2] at h'; cases h'
      | some ks' =>
        rw [h1, h2] at h'; cases h'
        rw [keyD_kV h1 q, keysD_kV h2 r]; rfl
theorem keyT_at {d : D} {ks : List Key} {v : V} (h : keyT d = some ks) (dv : DR K ι H d v) : ∃ b, v = .ref b ∧ H b = some (.tup (ks.map kV)) := by
  cases d with
  | tup ds =>
    obtain ⟨a, vs, rfl, q, r⟩ := dv.tup
    have e := keysD_kV (show keysD ds = some ks from h) r
    subst e
    exact ⟨a, rfl, q⟩
  | _ => cases h
theorem keyD_T {d : D} {k : Key} (h : keyD d = some k) : keyT d = none := by cases d <;> first | rfl | cases h
theorem keyOf_l {d : D} {k : Key} : keyOf d = some (.inl k) ↔ keyD d = some k := by
  unfold keyOf
  cases h : keyD d with
  | none => cases h2 : keyT d <;> simp
  | some k' => simp
theorem keyOf_r {d : D} {ks : List Key} : keyOf d = some (.inr ks) ↔ keyT d = some ks := by
  unfold keyOf
  cases h : keyD d with
  | none => cases h2 : keyT d <;> simp
  | some k' => rw [keyD_T h]; simp
abbrev KPl (K : PySem.W.Frag) (ι : List Addr) (H : Hp) := fun (p : D × D) (q : Key × V) => keyD p.1 = some q.1 ∧ DR K ι H p.2 q.2
abbrev KPr (K : PySem.W.Frag) (ι : List Addr) (H : Hp) := fun (p : D × D) (q : List Key × V) => keyT p.1 = some q.1 ∧ DR K ι H p.2 q.2
theorem find_l {kvs : List (D × D)} {kv : List (Key × V)} (h : Paired (KPl K ι H) kvs kv) (k : Key) : (findK kvs (.inl k) = none ∧ valV kv k = none) ∨ ∃ d v, findK kvs (.inl k) = some d ∧ valV kv k = some v ∧ DR K ι H d v := by
  induction h with
  | nil => exact .inl ⟨rfl, rfl⟩
  | @cons p q l₁ l₂ r t ih =>
    have e1 : isK (.inl k) p = decide (q.1 = k) := by
      have : keyOf p.1 = some (.inl q.1) := keyOf_l.mpr r.1
      unfold isK
      rw [this]
      by_cases e : q.1 = k
      · simp [e]
      · simp [e]
    by_cases e : q.1 = k
    · refine .inr ⟨p.2, q.2, ?_, valV_pos e, r.2⟩
      unfold findK
      rw [List.find?_cons, e1, decide_eq_true e]; rfl
    · rw [valV_neg e]
      have : findK (p :: l₁) (.inl k) = findK l₁ (.inl k) := by
        unfold findK
        rw [List.find?_cons, e1, decide_eq_false e]
      rw [this]
      exact ih
theorem find_r {kvs : List (D × D)} {kv : List (List Key × V)} (h : Paired (KPr K ι H) kvs kv) (k : List Key) : (findK kvs (.inr k) = none ∧ valV kv k = none) ∨ ∃ d v, findK kvs (.inr k) = some d ∧ valV kv k = some v ∧ DR K ι H d v := by
  induction h with
  | nil => exact .inl ⟨rfl, rfl⟩
  | @cons p q l₁ l₂ r t ih =>
    have e1 : isK (.inr k) p = decide (q.1 = k) := by
      have : keyOf p.1 = some (.inr q.1) := keyOf_r.mpr r.1
      unfold isK
      rw [this]
      by_cases e : q.1 = k
      · simp [e]
      · simp [e]
    by_cases e : q.1 = k
    · refine .inr ⟨p.2, q.2, ?_, valV_pos e, r.2⟩
      unfold findK
      rw [List.find?_cons, e1, decide_eq_true e]; rfl
    · rw [valV_neg e]
      have : findK (p :: l₁) (.inr k) = findK l₁ (.inr k) := by
        unfold findK
        rw [List.find?_cons, e1, decide_eq_false e]
      rw [this]
      exact ih
theorem any_l {kvs : List (D × D)} {kv : List (Key × V)} (h : Paired (KPl K ι H) kvs kv) (k : Key) : kvs.any (isK (.inl k)) = kv.any (fun p => decide (p.1 = k)) := by
  induction h with
  | nil => rfl
  | @cons p q l₁ l₂ r t ih =>
    have : keyOf p.1 = some (.inl q.1) := keyOf_l.mpr r.1
    rw [List.any_cons, List.any_cons, ih]
    congr 1
    unfold isK
    rw [this]
    by_cases e : q.1 = k <;> simp [e]
theorem any_r {kvs : List (D × D)} {kv : List (List Key × V)} (h : Paired (KPr K ι H) kvs kv) (k : List Key) : kvs.any (isK (.inr k)) = kv.any (fun p => decide (p.1 = k)) := by
  induction h with
  | nil => rfl
  | @cons p q l₁ l₂ r t ih =>
    have : keyOf p.1 = some (.inr q.1) := keyOf_r.mpr r.1
    rw [List.any_cons, List.any_cons, ih]
    congr 1
    unfold isK
    rw [this]
    by_cases e : q.1 = k <;> simp [e]
theorem paired_snoc {α β : Type} {F : α → β → Prop} {l : List α} {m : List β} {a : α} {b : β} (h : Paired F l m) (k : F a b) : Paired F (l ++ [a]) (m ++ [b]) := Paired.snoc h k
theorem put_l {kvs : List (D × D)} {kv : List (Key × V)} (h : Paired (KPl K ι H) kvs kv) {k : Key} {kd d : D} {v : V} (hk : keyD kd = some k) (dv : DR K ι H d v) : Paired (KPl K ι H) (Ev.putK kvs (.inl k) kd d) (L2.putK kv k v) := by
  unfold Ev.putK L2.putK
  rw [any_l h k]
  split
  · clear hk
    rename_i hh
    clear hh
    induction h with
    | nil => exact .nil
    | @cons p q l₁ l₂ r t ih =>
      rw [List.map_cons, List.map_cons]
      refine .cons ?_ ih
      have : keyOf p.1 = some (.inl q.1) := keyOf_l.mpr r.1
      unfold isK
      rw [this]
      by_cases e : q.1 = k
      · simp only [e, decide_true, if_true]; exact ⟨by rw [← e]; exact r.1, dv⟩
      · have : ¬ (some (Sum.inl q.1) : Option DK) = some (Sum.inl k) := fun z => e (Sum.inl.inj (Option.some.inj z))
        simp only [this, decide_false, e, if_false]
        exact r
  · exact paired_snoc h ⟨hk, dv⟩

theorem put_r {kvs : List (D × D)} {kv : List (List Key × V)} (h : Paired (KPr K ι H) kvs kv) {k : List Key} {kd d : D} {v : V} (hk : keyT kd = some k) (dv : DR K ι H d v) : Paired (KPr K ι H) (Ev.putK kvs (.inr k) kd d) (L2.putK kv k v) := by
  unfold Ev.putK L2.putK
  rw [any_r h k]
  split
  · clear hk
    rename_i hh
    clear hh
    induction h with
    | nil => exact .nil
    | @cons p q l₁ l₂ r t ih =>
      rw [List.map_cons, List.map_cons]
      refine .cons ?_ ih
      have : keyOf p.1 = some (.inr q.1) := keyOf_r.mpr r.1
      unfold isK
      rw [this]
      by_cases e : q.1 = k
      · simp only [e, decide_true, if_true]; exact ⟨by rw [← e]; exact r.1, dv⟩
      · have : ¬ (some (Sum.inr q.1) : Option DK) = some (Sum.inr k) := fun z => e (Sum.inr.inj (Option.some.inj z))
        simp only [this, decide_false, e, if_false]
        exact r
  · exact paired_snoc h ⟨hk, dv⟩

/-! ### an empty dict is of both kinds -/
theorem pairs_nil {κ : Type} [DecidableEq κ] {P : Program} {w : World} {knd : PySem.KeyKind P w κ} : ∀ {l : List DictEntry} {m : List (κ × Value)}, Pairs knd l m → m = [] → l = []
  | _, _, .nil, _ => rfl
  | _, _, .cons _ _ _, h => by cases h
theorem flipT {pins : List (Addr × Obj)} {σ : L2.St} {s : Shared} {a : Addr} (I : Inv X pins σ H s) (h : H a = some (.dK [])) : Inv X pins σ (upd H a (.dT [])) s := by
  obtain ⟨z, hd, vs, rel, o, es, ep, e, ex, hdat, hk, hp, hn⟩ := I.hok a _ h
  cases rel
  have es0 : es.toList = [] := pairs_nil hp rfl
  exact I.write (h' := s.heap) (x := a) (e := a) (o := .dT []) (t' := s.toks) (by rw [h]; trivial) (.inl rfl) (fun b u _ q => q) ⟨_, e⟩ ⟨Nat.zero_le _, hd, [], .nil, o, es, ep, e, ex, hdat, es0, List.nodup_nil⟩
theorem flipK {pins : List (Addr × Obj)} {σ : L2.St} {s : Shared} {a : Addr} (I : Inv X pins σ H s) (h : H a = some (.dT [])) : Inv X pins σ (upd H a (.dK [])) s := by
  obtain ⟨z, hd, xs, rel, o, es, ep, e, ex, hdat, hp, hn⟩ := I.hok a _ h
  cases rel
  have es0 : es.toList = [] := hp
  have es1 : es = #[] := by
    apply Array.toList_inj.mp
    rw [es0]
  subst es1
  exact I.write (h' := s.heap) (x := a) (e := a) (o := .dK []) (t' := s.toks) (by rw [h]; trivial) (.inl rfl) (fun b u _ q => q) ⟨_, e⟩ ⟨Nat.zero_le _, hd, [], .nil, o, #[], ep, e, ex, hdat, fun e he => absurd he (by simp), .nil, List.nodup_nil⟩
theorem upd_back {a : Addr} {u o : HO} (h : H a = some u) : upd (upd H a o) a u = H := by
  rw [upd_upd]
  funext b
  by_cases hb : b = a
  · subst hb; rw [upd_same, h]
  · rw [upd_ne hb]
/-- what the dict at a holds at the key y; an empty one holds nothing, whatever the key -/
def DGx (H : Hp) (a : Addr) (y : V) (r : Option V) : Prop :=
  DGet H a y r ∨ (H a = some (.dK []) ∧ (∃ (ks : List Key) (b : Addr), y = .ref b ∧ H b = some (.tup (ks.map kV))) ∧ r = none) ∨ (H a = some (.dT []) ∧ (∃ k : Key, y = kV k) ∧ r = none)
/-- the same for an object that is written -/
def DPx (H : Hp) (a : Addr) (y v : V) (H' : Hp) : Prop :=
  DPut H a y v H' ∨ (∃ (ks : List Key) (b : Addr), H a = some (.dK []) ∧ y = .ref b ∧ H b = some (.tup (ks.map kV)) ∧ H' = upd H a (.dT [(ks, v)])) ∨ (∃ k : Key, H a = some (.dT []) ∧ y = kV k ∧ H' = upd H a (.dK [(k, v)]))
theorem dx_in {pins : List (Addr × Obj)} {σ : L2.St} {s : Shared} {a : Addr} {y : V} {u : Value} {o : Option V} {A : Around} {E : Value → Shared → Prop} {Q : Value → Shared → Prop} (hu : A.units + 1 < cLine) (I : Inv X pins σ H s) (g : DGx H a y o) (ry : RelV y u)
    (h : ∀ s', Inv X pins σ H s' → Q (.bool o.isSome) s') : wpAny (model X.prog X.w) A (compareOp .In u (.ref a)) Q E s := by
  rcases g with g | ⟨ha, ⟨ks, b, rfl, hb⟩, rfl⟩ | ⟨ha, ⟨k, rfl⟩, rfl⟩
  · exact d_in hu I g ry h
  · refine d_in (o := none) hu (flipT I ha) (DGet.t (kvs := []) (k := ks) upd_same (by rw [upd_ne (ne_of hb ha (by intro z; cases z))]; exact hb)) ry fun s' I' => h s' ?_
    have := flipK I' upd_same
    rwa [upd_back ha] at this
  · refine d_in (o := none) hu (flipK I ha) (DGet.k (kvs := []) (k := k) upd_same) ry fun s' I' => h s' ?_
    have := flipT I' upd_same
    rwa [upd_back ha] at this
theorem dx_notIn {pins : List (Addr × Obj)} {σ : L2.St} {s : Shared} {a : Addr} {y : V} {u : Value} {o : Option V} {A : Around} {E : Value → Shared → Prop} {Q : Value → Shared → Prop} (hu : A.units + 1 < cLine) (I : Inv X pins σ H s) (g : DGx H a y o) (ry : RelV y u)
    (h : ∀ s', Inv X pins σ H s' → Q (.bool (!o.isSome)) s') : wpAny (model X.prog X.w) A (compareOp .NotIn u (.ref a)) Q E s := by
  rcases g with g | ⟨ha, ⟨ks, b, rfl, hb⟩, rfl⟩ | ⟨ha, ⟨k, rfl⟩, rfl⟩
  · exact d_notIn hu I g ry h
  · refine d_notIn (o := none) hu (flipT I ha) (DGet.t (kvs := []) (k := ks) upd_same (by rw [upd_ne (ne_of hb ha (by intro z; cases z))]; exact hb)) ry fun s' I' => h s' ?_
    have := flipK I' upd_same
    rwa [upd_back ha] at this
  · refine d_notIn (o := none) hu (flipK I ha) (DGet.k (kvs := []) (k := k) upd_same) ry fun s' I' => h s' ?_
    have := flipT I' upd_same
    rwa [upd_back ha] at this
theorem dx_get1 {pins : List (Addr × Obj)} {σ : L2.St} {s : Shared} {a : Addr} {y : V} {u : Value} {o : Option V} {A : Around} {E : Value → Shared → Prop} {Q : Value → Shared → Prop} (hu : A.units + 1 < cLine) (I : Inv X pins σ H s) (g : DGx H a y o) (ry : RelV y u)
    (h : ∀ w' s', Inv X pins σ H s' → RelV (o.getD .non) w' → Q w' s') : wpAny (model X.prog X.w) A (call (.builtin "dict.get") [.ref a, u]) Q E s := by
  rcases g with g | ⟨ha, ⟨ks, b, rfl, hb⟩, rfl⟩ | ⟨ha, ⟨k, rfl⟩, rfl⟩
  · exact d_get1 hu I g ry h
  · refine d_get1 (o := none) hu (flipT I ha) (DGet.t (kvs := []) (k := ks) upd_same (by rw [upd_ne (ne_of hb ha (by intro z; cases z))]; exact hb)) ry fun w' s' I' r => h w' s' ?_ r
    have := flipK I' upd_same
    rwa [upd_back ha] at this
  · refine d_get1 (o := none) hu (flipK I ha) (DGet.k (kvs := []) (k := k) upd_same) ry fun w' s' I' r => h w' s' ?_ r
    have := flipT I' upd_same
    rwa [upd_back ha] at this
theorem dx_get2 {pins : List (Addr × Obj)} {σ : L2.St} {s : Shared} {a : Addr} {y d : V} {u r : Value} {o : Option V} {A : Around} {E : Value → Shared → Prop} {Q : Value → Shared → Prop} (hu : A.units + 1 < cLine) (I : Inv X pins σ H s) (g : DGx H a y o) (ry : RelV y u) (rd : RelV d r)
    (h : ∀ w' s', Inv X pins σ H s' → RelV (o.getD d) w' → Q w' s') : wpAny (model X.prog X.w) A (call (.builtin "dict.get") [.ref a, u, r]) Q E s := by
  rcases g with g | ⟨ha, ⟨ks, b, rfl, hb⟩, rfl⟩ | ⟨ha, ⟨k, rfl⟩, rfl⟩
  · exact d_get2 hu I g ry rd h
  · refine d_get2 (o := none) hu (flipT I ha) (DGet.t (kvs := []) (k := ks) upd_same (by rw [upd_ne (ne_of hb ha (by intro z; cases z))]; exact hb)) ry rd fun w' s' I' r => h w' s' ?_ r
    have := flipK I' upd_same
    rwa [upd_back ha] at this
  · refine d_get2 (o := none) hu (flipK I ha) (DGet.k (kvs := []) (k := k) upd_same) ry rd fun w' s' I' r => h w' s' ?_ r
    have := flipT I' upd_same
    rwa [upd_back ha] at this
theorem dx_setItem {pins : List (Addr × Obj)} {σ : L2.St} {s : Shared} {a : Addr} {y v : V} {u r : Value} {H' : Hp} {A : Around} {E : Value → Shared → Prop} {Q : Unit → Shared → Prop} (hu : A.units + 1 < cLine) (I : Inv X pins σ H s) (g : DPx H a y v H') (ry : RelV y u) (rv : RelV v r)
    (h : ∀ s', Inv X pins σ H' s' → Q () s') : wpAny (model X.prog X.w) A (setItem (.ref a) u r) Q E s := by
  rcases g with g | ⟨ks, b, ha, rfl, hb, rfl⟩ | ⟨k, ha, rfl, rfl⟩
  · exact d_setItem hu I g ry rv h
  · refine d_setItem hu (flipT I ha) (DPut.t (kvs := []) (k := ks) upd_same (by rw [upd_ne (ne_of hb ha (by intro z; cases z))]; exact hb) (by rw [sizeLine_eq]; decide)) ry rv fun s' I' => h s' ?_
    rw [upd_upd] at I'
    exact I'
  · refine d_setItem hu (flipK I ha) (DPut.k (kvs := []) (k := k) upd_same (by rw [sizeLine_eq]; decide)) ry rv fun s' I' => h s' ?_
    rw [upd_upd] at I'
    exact I'

/-! ### the ties -/
theorem kindOk_l {p : D × D} {kvs : List (D × D)} {q : DK} (h : kindOk (p :: kvs) q = true) {k : Key} (hk : keyD p.1 = some k) : ∃ k', q = .inl k' := by
  have e : keyOf p.1 = some (.inl k) := keyOf_l.mpr hk
  have h' : (match keyOf p.1 with | some q' => sameK q' q | none => false) = true := h
  rw [e] at h'
  cases q with
  | inl k' => exact ⟨k', rfl⟩
  | inr k' => cases h'
theorem kindOk_r {p : D × D} {kvs : List (D × D)} {q : DK} (h : kindOk (p :: kvs) q = true) {k : List Key} (hk : keyT p.1 = some k) : ∃ k', q = .inr k' := by
  have e : keyOf p.1 = some (.inr k) := keyOf_r.mpr hk
  have h' : (match keyOf p.1 with | some q' => sameK q' q | none => false) = true := h
  rw [e] at h'
  cases q with
  | inl k' => cases h'
  | inr k' => exact ⟨k', rfl⟩
/-- a look into a dict's content -/
theorem look_of {kvs : List (D × D)} {u : HO} {a : Addr} {k : D} {v : V} {q : DK} (hq : keyOf k = some q) (hk : kindOk kvs q = true) (rd : Rd H a u) (ne : kvs = [] → H a = some u) (c : DcR K ι H kvs u) (dv : DR K ι H k v) :
    (findK kvs q = none ∧ DGx H a v none) ∨ ∃ d w, findK kvs q = some d ∧ DGx H a v (some w) ∧ DR K ι H d w := by
  rcases c with ⟨kv, rfl, p⟩ | ⟨kv, rfl, p⟩
  · cases q with
    | inl kk =>
      have e := keyD_kV (keyOf_l.mp hq) dv
      subst e
      rcases find_l p kk with ⟨h1, h2⟩ | ⟨d, w, h1, h2, h3⟩
      · exact .inl ⟨h1, .inl (.inl ⟨kv, kk, rd, rfl, h2.symm⟩)⟩
      · exact .inr ⟨d, w, h1, .inl (.inl ⟨kv, kk, rd, rfl, h2.symm⟩), h3⟩
    | inr ks =>
      cases p with
      | nil =>
        obtain ⟨b, rfl, hb⟩ := keyT_at (keyOf_r.mp hq) dv
        exact .inl ⟨rfl, .inr (.inl ⟨ne rfl, ⟨ks, b, rfl, hb⟩, rfl⟩)⟩
      | cons r t => obtain ⟨k', e⟩ := kindOk_l hk r.1; cases e
  · cases q with
    | inr ks =>
      obtain ⟨b, rfl, hb⟩ := keyT_at (keyOf_r.mp hq) dv
      rcases find_r p ks with ⟨h1, h2⟩ | ⟨d, w, h1, h2, h3⟩
      · exact .inl ⟨h1, .inl (.inr ⟨kv, ks, b, rd, rfl, hb, h2.symm⟩)⟩
      · exact .inr ⟨d, w, h1, .inl (.inr ⟨kv, ks, b, rd, rfl, hb, h2.symm⟩), h3⟩
    | inl kk =>
      cases p with
      | nil =>
        have e := keyD_kV (keyOf_l.mp hq) dv
        exact .inl ⟨rfl, .inr (.inr ⟨ne rfl, ⟨kk, e⟩, rfl⟩)⟩
      | cons r t => obtain ⟨k', e⟩ := kindOk_r hk r.1; cases e
theorem get_of {S : Sto} (sr : SR K ι H mg S) {n : Nat} {k : D} {a : Addr} {v : V} {r : Option D} (h : getK S n k = some r) (ia : ι[n]? = some a) (dv : DR K ι H k v) :
    (r = none ∧ DGx H a v none) ∨ ∃ d w, r = some d ∧ DGx H a v (some w) ∧ DR K ι H d w := by
  unfold getK at h
  split at h
  · cases h
  · rename_i q hq
    split at h
    · rename_i kvs e
      split at h
      · rename_i hk
        cases h
        obtain ⟨u, hu, c⟩ := sr.obj n _ a e ia
        exact look_of hq hk (.inl hu) (fun _ => hu) c dv
      · cases h
    · rename_i kvs e
      split at h
      · rename_i hk
        cases h
        obtain ⟨od, u, hu, c⟩ := sr.obj n _ a e ia
        exact look_of hq hk.1 (.inr ⟨od, hu⟩) (fun z => by rw [z] at hk; cases hk.2) c dv
      · cases h
    · cases h
end
end Ev
/-! EvE: subscripts, slices, in -/
namespace Ev
open PySem L2

/-- d[e] -/
def optR (o : Option D) (S : Sto) : R XR := match o with
  | some d => .ok (.d d) S
  | none => .no
def sigOf (c : Nat) : D := .str ⟨#[c]⟩
def ixD (d e : D) (S : Sto) : R XR := match d, e with
  | .tup ds, .int i => optR (atI ds i) S
  | .kt ds, .int i => optR (atI ds i) S
  | .str z, .int i => if z.length ≤ BIG then optR ((atI z.cps.toList i).map sigOf) S else .no
  | .ref n, .int i => match listAt S n with
    | some ds => optR (atI ds i) S
    | none => optR ((getK S n (.int i)).join) S
  | .ref n, k => optR ((getK S n k).join) S
  | _, _ => .no
/-- the part of a list between two places -/
def cutL {α : Type} (xs : List α) (lo hi : Option Int) : List α := (xs.drop (HT.sIx xs.length 0 lo)).take (HT.sIx xs.length xs.length hi - HT.sIx xs.length 0 lo)
def slD (d : D) (lo hi : Option Int) (S : Sto) : R XR := match d with
  | .tup ds => .ok (.d (.tup (cutL ds lo hi))) S
  | .str z => if z.length ≤ BIG then .ok (.d (.str (cutS z lo hi))) S else .no
  | .ref n => match listAt S n with
    | some ds => .ok (.tl (cutL ds lo hi)) S
    | none => .no
  | _ => .no
def ePart (m : Option M) (s : Env) (S : Sto) : R (Option Int) := match m with
  | none => .ok none S
  | some m => (force (m s S)).bind fun d S1 => match d with
    | .int i => .ok (some i) S1
    | _ => .no
def eSl (a : M) (lo hi : Option M) : M := fun s S => (force (a s S)).bind fun d S1 => (ePart lo s S1).bind fun l S2 => (ePart hi s S2).bind fun h S3 => slD d l h S3
/-- in -/
def inDeep (d e : D) (S : Sto) : Option Bool := match dataD S 66 d, dataD S 66 e with
  | some x, some (.list ys) => if SeqAt.shaped x = true ∧ SeqAt.shaped (.list ys) = true then some (ys.any fun z => PyData.eqv z x) else none
  | _, _ => none
def inB (d e : D) (S : Sto) : Option Bool := match e with
  | .tup es => inF d es
  | .kt es => inF d es
  | .str z => match d with
    | .str x => match x.cps.toList with
      | [c] => some (decide (c ∈ z.cps.toList))
      | _ => none
    | _ => none
  | .ref n => match listAt S n with
    | some es => match inF d es with
      | some b => some b
      | none => inDeep d e S
    | none => (getK S n d).map (·.isSome)
  | _ => none
def inD (d e : D) (S : Sto) : R XR := blR (inB d e S) S
def notInD (d e : D) (S : Sto) : R XR := blR ((inB d e S).map (!·)) S

section
variable {K : PySem.W.Frag} {ι : List Addr} {H : Hp} {mg : Str → Option Value} {X : Cx}
theorem optR_use {S : Sto} {o : Option D} {Q : VK} (h : RQ K mg ι H (optR o S) Q) : ∃ d, o = some d ∧ RQ K mg ι H (.ok (.d d) S) Q := by
  unfold optR at h
  split at h
  · exact ⟨_, rfl, h⟩
  · exact h.no.elim
theorem atI_rel {ds : List D} {vs : List V} {i : Int} {d : D} (r : DRs K ι H ds vs) (h : atI ds i = some d) : ∃ v, atI vs i = some v ∧ DR K ι H d v := by
  unfold atI at h ⊢
  rw [r.length]
  cases e : ixN ds.length i with
  | none => rw [e] at h; cases h
  | some j =>
    rw [e] at h
    exact r.get (show ds[j]? = some d from h)
def rIxD : R2 := fun x y H Q => ∃ a v, x = .ref a ∧ DGx H a y (some v) ∧ Q v H
theorem ix_dict (hu : X.A.units + 1 < cLine) : IxR X rIxD := by
  intro value slice pins s σ H x y v u Q I rx ry h hs
  obtain ⟨a, z, rfl, g, q⟩ := h
  have g : DGet H a y (some z) := by
    rcases g with g | ⟨_, _, e⟩ | ⟨_, _, e⟩
    · exact g
    · cases e
    · cases e
  cases rx
  exact PyProof.Rows.tail_any (dict_typeIs I g) PySem.F.slot_dict_getitem.lookup (d_getItem hu I g ry fun w' s' I' r' => ⟨z, H, I', r', q⟩) hs
def rIxA (K : PySem.W.Frag) : R2 := fun x y H Q => rIx K x y H Q ∨ rIxD x y H Q
theorem ix_all (hu : X.A.units + 1 < cLine) : IxR X (rIxA X.K) := ix_seq.or (ix_dict hu)
theorem ixK {S : Sto} {n : Nat} {k : D} {v w : V} {Q : VK} (sr : SR K ι H mg S) (dv : DR K ι H (.ref n) v) (dw : DR K ι H k w) (h : RQ K mg ι H (optR ((getK S n k).join) S) Q) : rIxA K v w H Q := by
  obtain ⟨d, e, h⟩ := optR_use h
  obtain ⟨a, rfl, ia⟩ := dv.ref
  cases e2 : getK S n k with
  | none => rw [e2] at e; cases e
  | some r =>
    rw [e2] at e
    cases (show r = some d from e)
    rcases get_of sr e2 ia dw with ⟨e3, _⟩ | ⟨d', z, e3, g, dr⟩
    · cases e3
    · cases e3
      exact .inr ⟨a, z, rfl, g, h.here sr dr⟩
theorem sIx {S : Sto} {d e : D} {v w : V} {Q : VK} (sr : SR K ι H mg S) (dv : DR K ι H d v) (dw : DR K ι H e w) (h : RQ K mg ι H (ixD d e S) Q) : rIxA K v w H Q := by
  unfold ixD at h
  split at h
  · obtain ⟨x, e, h⟩ := optR_use h
    obtain ⟨a, vs, rfl, q, r⟩ := dv.tup
    cases dw.int
    obtain ⟨y, e2, dr⟩ := atI_rel r e
    exact .inl (.inr (.inl ⟨a, vs, _, y, rfl, rfl, SqT.of q, e2, h.here sr dr⟩))
  · obtain ⟨x, e, h⟩ := optR_use h
    obtain ⟨a, vs, rfl, q, r⟩ := dv.kt
    cases dw.int
    obtain ⟨y, e2, dr⟩ := atI_rel r e
    exact .inl (.inr (.inl ⟨a, vs, _, y, rfl, rfl, q H, e2, h.here sr dr⟩))
  · split at h
    · rename_i hz
      obtain ⟨x, e, h⟩ := optR_use h
      cases dv.str; cases dw.int
      obtain ⟨c, e2, e3⟩ := Option.map_eq_some_iff.mp e
      refine .inl (.inr (.inr ⟨_, _, c, rfl, rfl, big_le hz, e2, ?_⟩))
      subst e3
      exact h.here sr rfl
    · exact h.no.elim
  · split at h
    · rename_i ds e1
      obtain ⟨x, e, h⟩ := optR_use h
      obtain ⟨a, rfl, ia⟩ := dv.ref
      cases dw.int
      obtain ⟨vs, q, r⟩ := sr.list e1 ia
      obtain ⟨y, e2, dr⟩ := atI_rel r e
      exact .inl (.inl ⟨a, vs, _, y, rfl, rfl, q, e2, h.here sr dr⟩)
    · exact ixK sr dv dw h
  · exact ixK sr dv dw h
  · exact h.no.elim
theorem se_ix {a b : Expr} {pos : Pos} {ma mb : M} (hu : X.A.units + 1 < cLine) (hs : PlainIx b) (ha : SE X a ma) (hb : SE X b mb) : SE X (.Subscript a b pos) (eOp ixD ma mb) :=
  pe_imp (pe_ix (ix_all hu) ha hb hs) (op_tM (a := a) (b := b) sIx)

/-! ### slices -/
def RO (K : PySem.W.Frag) (mg : Str → Option Value) (ι : List Addr) (H : Hp) (r : R (Option Int)) (Q : Option Int → Hp → Prop) : Prop :=
  ∃ b S', r = .ok b S' ∧ ∀ ι' H', Gro K ι H ι' H' → SR K ι' H' mg S' → Q b H'
def tMO (K : PySem.W.Frag) (mg : Str → Option Value) (m : Option M) : TO := fun σ H Q => ∃ ι s S, SR K ι H mg S ∧ NR K ι H s σ ∧ RO K mg ι H (ePart m s S) Q
abbrev SO (X : Cx) (e : Option Expr) (m : Option M) : Prop := PO X e (tMO X.K X.mg m)
theorem po_imp {e : Option Expr} {t t' : TO} (h : PO X e t) (k : ∀ σ H Q, t' σ H Q → t σ H Q) : PO X e t' := ⟨fun pins s σ H Q I q => h.run pins s σ H Q I (k _ _ _ q)⟩
theorem so_none : SO X none none := po_imp po_none fun σ H Q ⟨ι, s, S, sr, nr, h⟩ => by
  obtain ⟨b, S', e, k⟩ := h
  cases e
  exact k ι H Gro.refl sr
theorem so_some {e : Expr} {m : M} (he : SE X e m) : SO X (some e) (some m) := po_imp (po_some he) fun σ H Q ⟨ι, s, S, sr, nr, h⟩ =>
  ⟨ι, s, S, sr, nr, bindDG (W := fun ι H r => RO X.K X.mg ι H r Q) (fun ι H h => by obtain ⟨_, _, e, _⟩ := h; cases e)
    (fun ι H ι' H' r h g => by obtain ⟨b, S', e, k⟩ := h; exact ⟨b, S', e, fun ι2 H2 g2 sr => k ι2 H2 (g.trans g2) sr⟩)
    (show RO X.K X.mg ι H ((force (m s S)).bind fun d S1 => match d with | .int i => .ok (some i) S1 | _ => .no) Q from h) fun d S1 ι1 H1 v g1 sr1 dr1 h1 => by
      split at h1
      · obtain ⟨b, S', e, k⟩ := h1
        cases e
        exact ⟨_, dr1.int, k ι1 H1 Gro.refl sr1⟩
      · obtain ⟨_, _, e, _⟩ := h1; cases e⟩
theorem bindOQ {r : R (Option Int)} {k : Option Int → Sto → R XR} {Q : VK} {Q1 : Option Int → Hp → Prop} (h : RQ K mg ι H (r.bind k) Q)
    (f : ∀ b S1 ι1 H1, Gro K ι H ι1 H1 → SR K ι1 H1 mg S1 → RQ K mg ι1 H1 (k b S1) Q → Q1 b H1) : RO K mg ι H r Q1 := by
  cases r with
  | no => exact h.no.elim
  | ok x S => exact ⟨x, S, rfl, fun ι' H' g sr => f x S ι' H' g sr (RQ.later h g)⟩
theorem cutL_rel {ds : List D} {vs : List V} (r : DRs K ι H ds vs) (lo hi : Option Int) : DRs K ι H (cutL ds lo hi) (cutV vs lo hi) := by
  unfold cutL cutV
  rw [r.length]
  exact (r.drop _).take _
def rSlAll (K : PySem.W.Frag) : V → Option Int → Option Int → Hp → VK → Prop := fun x lo hi H Q => rSlL K x lo hi H Q ∨ rSlA K x lo hi H Q ∨ rSlS x lo hi H Q
theorem sl_all : SlR X (rSlAll X.K) := sl_list.or (sl_tupA.or sl_str)
theorem sSl {S : Sto} {d : D} {lo hi : Option Int} {v : V} {Q : VK} (sr : SR K ι H mg S) (dv : DR K ι H d v) (h : RQ K mg ι H (slD d lo hi S) Q) : rSlAll K v lo hi H Q := by
  unfold slD at h
  split at h
  · rename_i ds
    obtain ⟨a, vs, rfl, q, r⟩ := dv.tup
    refine .inr (.inl ⟨a, vs, rfl, SqT.of q, fun e => ?_, fun _ => h.newT sr (cutL_rel r lo hi)⟩)
    have e1 : cutL ds lo hi = ds := by
      unfold cutL
      rw [← r.length, e.1, e.2, List.drop_zero, Nat.sub_zero, r.length, List.take_length]
    rw [e1] at h
    exact h.here sr ⟨a, vs, rfl, q, r⟩
  · split at h
    · rename_i hz
      cases dv.str
      exact .inr (.inr ⟨_, rfl, big_le hz, h.here sr rfl⟩)
    · exact h.no.elim
  · split at h
    · rename_i ds e1
      obtain ⟨a, rfl, ia⟩ := dv.ref
      obtain ⟨vs, q, r⟩ := sr.list e1 ia
      exact .inl ⟨a, vs, rfl, q, h.newL sr (cutL_rel r lo hi)⟩
    · exact h.no.elim
  · exact h.no.elim
theorem se_sl {a : Expr} {lo hi : Option Expr} {p2 pos : Pos} {ma : M} {ml mh : Option M} (ha : SE X a ma) (hl : SO X lo ml) (hh : SO X hi mh) : SE X (.Subscript a (.Slice lo hi none p2) pos) (eSl ma ml mh) :=
  pe_imp (pe_slice sl_all ha hl hh) fun σ H Q ⟨ι, s, S, sr, nr, h⟩ => ⟨ι, s, S, sr, nr, bindD h fun d S1 ι1 H1 v g1 sr1 dr1 h1 => ⟨ι1, s, S1, sr1, nr.mono g1.wk,
    bindOQ h1 fun l S2 ι2 H2 g2 sr2 h2 => ⟨ι2, s, S2, sr2, (nr.mono g1.wk).mono g2.wk, bindOQ h2 fun u S3 ι3 H3 g3 sr3 h3 => sSl sr3 ((dr1.mono g2.wk).mono g3.wk) h3⟩⟩⟩

/-! ### in -/
theorem flat_rel {d : D} {v : V} (dv : DR K ι H d v) (h : flatD d = true) : flatV v = true := by
  cases d with
  | non => cases dv.non; rfl
  | bl b => cases dv.bl; rfl
  | int b => cases dv.int; rfl
  | str b => cases dv.str; rfl
  | _ => cases h
theorem eqF_rel {d e : D} {v w : V} (dv : DR K ι H d v) (dw : DR K ι H e w) (hd : flatD d = true) (he : flatD e = true) : eqV v w = eqF d e := by
  cases d with
  | non => cases dv.non; cases e with
    | non => cases dw.non; rfl
    | bl b => cases dw.bl; rfl
    | int b => cases dw.int; rfl
    | str b => cases dw.str; rfl
    | _ => cases he
  | bl b => cases dv.bl; cases e with
    | non => cases dw.non; rfl
    | bl b => cases dw.bl; rfl
    | int b => cases dw.int; rfl
    | str b => cases dw.str; rfl
    | _ => cases he
  | int b => cases dv.int; cases e with
    | non => cases dw.non; rfl
    | bl b => cases dw.bl; rfl
    | int b => cases dw.int; rfl
    | str b => cases dw.str; rfl
    | _ => cases he
  | str b => cases dv.str; cases e with
    | non => cases dw.non; rfl
    | bl b => cases dw.bl; rfl
    | int b => cases dw.int; rfl
    | str b => cases dw.str; rfl
    | _ => cases he
  | _ => cases hd
theorem inF_rel {d : D} {v : V} (dv : DR K ι H d v) : ∀ {ds : List D} {vs : List V} {b : Bool}, DRs K ι H ds vs → inF d ds = some b → flatV v = true ∧ vs.all flatV = true ∧ inV v vs = b := fun {ds vs b} r h => by
  unfold inF at h
  split at h
  · rename_i hf
    cases h
    refine ⟨flat_rel dv hf.1, ?_⟩
    have hd := hf.1
    have hs := hf.2
    clear hf
    induction ds generalizing vs with
    | nil => rw [DRs.nil_iff.mp r]; exact ⟨rfl, rfl⟩
    | cons e ds ih =>
      obtain ⟨w, ws, rfl, q, r⟩ := DRs.cons_iff.mp r
      rw [List.all_cons, Bool.and_eq_true] at hs
      obtain ⟨h1, h2⟩ := ih r hs.2
      refine ⟨by rw [List.all_cons, h1, flat_rel q hs.1]; rfl, ?_⟩
      unfold inV at h2 ⊢
      rw [List.any_cons, List.any_cons, h2, eqF_rel q dv hs.1 hd]
  · cases h
def rInA (K : PySem.W.Frag) : R2 := fun x y H Q => rIn K false x y H Q ∨ rInD K x y H Q ∨ (∃ (c : Nat) (z : Str), x = .str ⟨#[c]⟩ ∧ y = .str z ∧ Q (.bl (decide (c ∈ z.cps.toList))) H) ∨ (∃ a o, y = .ref a ∧ DGx H a x o ∧ Q (.bl o.isSome) H)
theorem op_inA (hu : X.A.units + 65 < cLine) : OpR X (compareOp .In) (rInA X.K) := op_in_seq.or ((op_inD hu).or (op_in_sign.or fun pins s σ H x y v u Q I rx ry h => by
  obtain ⟨a, o, rfl, g, q⟩ := h
  cases ry
  exact dx_in (by omega) I g rx fun s' I' => ⟨.bl _, H, I', rfl, q⟩))
def rNotInA (K : PySem.W.Frag) : R2 := fun x y H Q => rIn K true x y H Q ∨ rNotInD K x y H Q ∨ (∃ (c : Nat) (z : Str), x = .str ⟨#[c]⟩ ∧ y = .str z ∧ Q (.bl (!decide (c ∈ z.cps.toList))) H) ∨ (∃ a o, y = .ref a ∧ DGx H a x o ∧ Q (.bl (!o.isSome)) H)
theorem op_notInA (hu : X.A.units + 65 < cLine) : OpR X (compareOp .NotIn) (rNotInA X.K) := op_notIn_seq.or ((op_notInD hu).or (op_notIn_sign.or fun pins s σ H x y v u Q I rx ry h => by
  obtain ⟨a, o, rfl, g, q⟩ := h
  cases ry
  exact dx_notIn (by omega) I g rx fun s' I' => ⟨.bl _, H, I', rfl, q⟩))
/-- the ways of in -/
theorem in_cases {S : Sto} {d e : D} {v w : V} {b : Bool} (sr : SR K ι H mg S) (dv : DR K ι H d v) (dw : DR K ι H e w) (h : inB d e S = some b) :
    (∃ p xs, w = .ref p ∧ (SqL K H p xs ∨ SqT K H p xs) ∧ flatV v = true ∧ xs.all flatV = true ∧ inV v xs = b) ∨
    (∃ d ds, Dp K H v d ∧ Dp K H w (.list ds) ∧ SeqAt.shaped d = true ∧ SeqAt.shaped (.list ds) = true ∧ (ds.any fun z => PyData.eqv z d) = b) ∨
    (∃ (c : Nat) (z : Str), v = .str ⟨#[c]⟩ ∧ w = .str z ∧ decide (c ∈ z.cps.toList) = b) ∨ (∃ a o, w = .ref a ∧ DGx H a v o ∧ o.isSome = b) := by
  unfold inB at h
  split at h
  · obtain ⟨a, vs, rfl, q, r⟩ := dw.tup
    obtain ⟨h1, h2, h3⟩ := inF_rel dv r h
    exact .inl ⟨a, vs, rfl, .inr (SqT.of q), h1, h2, h3⟩
  · obtain ⟨a, vs, rfl, q, r⟩ := dw.kt
    obtain ⟨h1, h2, h3⟩ := inF_rel dv r h
    exact .inl ⟨a, vs, rfl, .inr (q H), h1, h2, h3⟩
  · split at h
    · split at h
      · rename_i x _ c e
        cases dv.str; cases dw.str
        refine .inr (.inr (.inl ⟨c, _, ?_, rfl, Option.some.inj h⟩))
        have : x = ⟨#[c]⟩ := by
          cases x with
          | mk cps =>
            have e' : cps.toList = [c] := e
            have : cps = #[c] := Array.toList_inj.mp (by rw [e'])
            rw [this]
        rw [this]
      · cases h
    · cases h
  · rename_i n
    split at h
    · rename_i es e1
      obtain ⟨a, e2, ia⟩ := dw.ref
      obtain ⟨vs, q, r⟩ := sr.list e1 ia
      split at h
      · rename_i b' e3
        cases h
        obtain ⟨h1, h2, h3⟩ := inF_rel dv r e3
        exact .inl ⟨a, vs, e2, .inl q, h1, h2, h3⟩
      · unfold inDeep at h
        split at h
        · rename_i x ys h1 h2
          split at h
          · rename_i hs
            exact .inr (.inl ⟨x, ys, Dp.of sr _ _ _ _ h1 dv, Dp.of sr _ _ _ _ h2 dw, hs.1, hs.2, Option.some.inj h⟩)
          · cases h
        · cases h
    · obtain ⟨a, e2, ia⟩ := dw.ref
      cases e3 : getK S n d with
      | none => rw [e3] at h; cases h
      | some r =>
        rw [e3] at h
        have h' : r.isSome = b := Option.some.inj h
        rcases get_of sr e3 ia dv with ⟨rfl, g⟩ | ⟨d', z, rfl, g, _⟩
        · exact .inr (.inr (.inr ⟨a, none, e2, g, h'⟩))
        · exact .inr (.inr (.inr ⟨a, some z, e2, g, h'⟩))
  · cases h
theorem sIn {S : Sto} {d e : D} {v w : V} {Q : VK} (sr : SR K ι H mg S) (dv : DR K ι H d v) (dw : DR K ι H e w) (h : RQ K mg ι H (inD d e S) Q) : rInA K v w H Q := by
  obtain ⟨b, e1, q⟩ := blR_use sr h
  rcases in_cases sr dv dw e1 with ⟨p, xs, h0, h1, h2, h3, h4⟩ | ⟨x, ys, h1, h2, h3, h4, h5⟩ | ⟨c, z, h1, h2, h3⟩ | ⟨a, o, h1, h2, h3⟩
  · subst h4; exact .inl ⟨p, xs, h0, h1, h2, h3, q⟩
  · subst h5; exact .inr (.inl ⟨x, ys, h1, h2, h3, h4, q⟩)
  · subst h3; exact .inr (.inr (.inl ⟨c, z, h1, h2, q⟩))
  · subst h3; exact .inr (.inr (.inr ⟨a, o, h1, h2, q⟩))
theorem sNotIn {S : Sto} {d e : D} {v w : V} {Q : VK} (sr : SR K ι H mg S) (dv : DR K ι H d v) (dw : DR K ι H e w) (h : RQ K mg ι H (notInD d e S) Q) : rNotInA K v w H Q := by
  obtain ⟨b0, e0, q⟩ := blR_use sr h
  cases e1 : inB d e S with
  | none => rw [e1] at e0; cases e0
  | some b =>
    rw [e1] at e0
    cases e0
    rcases in_cases sr dv dw e1 with ⟨p, xs, h0, h1, h2, h3, h4⟩ | ⟨x, ys, h1, h2, h3, h4, h5⟩ | ⟨c, z, h1, h2, h3⟩ | ⟨a, o, h1, h2, h3⟩
    · subst h4; exact .inl ⟨p, xs, h0, h1, h2, h3, q⟩
    · subst h5; exact .inr (.inl ⟨x, ys, h1, h2, h3, h4, q⟩)
    · subst h3; exact .inr (.inr (.inl ⟨c, z, h1, h2, q⟩))
    · subst h3; exact .inr (.inr (.inr ⟨a, o, h1, h2, q⟩))
end
end Ev
/-! EvF: methods of built-in types -/
namespace Ev
open PySem L2 PyProof.Rows

/-- what type a value has, where methods are asked -/
def tyD (d : D) (S : Sto) : Option String := match d with
  | .str _ => some "str"
  | .ref n => match S[n]? with
    | some (.lst _) => some "list"
    | some (.rol _) => some "list"
    | some (.dct _) => some "dict"
    | _ => none
  | _ => none
abbrev MF := String → D → List D → Sto → R XR
def eMeth (F : MF) (o : M) (as : MA) : M := fun s S => (force (o s S)).bind fun d S1 => match tyD d S1 with
  | some T => (as s S1).bind fun ds S2 => F T d ds S2
  | none => .no
def withL (S : Sto) (d : D) (k : Nat → List D → R XR) : R XR := match d with
  | .ref n => match S[n]? with
    | some (.lst xs) => k n xs
    | _ => .no
  | _ => .no
def mAppend : MF := fun T d ds S => if T = "list" then match ds with
  | [y] => withL S d fun n xs => if xs.length < BIG then .ok (.d .non) (S.set n (.lst (xs ++ [y]))) else .no
  | _ => .no else .no
def mExtend : MF := fun T d ds S => if T = "list" then match ds with
  | [.tup ys] => withL S d fun n xs => if xs.length + ys.length ≤ BIG then .ok (.d .non) (S.set n (.lst (xs ++ ys))) else .no
  | [.ref m] => withL S d fun n xs => match S[m]? with
    | some (.lst ys) => if xs.length + ys.length ≤ BIG then .ok (.d .non) (S.set n (.lst (xs ++ ys))) else .no
    | _ => .no
  | _ => .no else .no
def mPop : MF := fun T d ds S => if T = "list" then match ds with
  | [] => withL S d fun n xs => match xs[xs.length - 1]? with
    | some y => .ok (.d y) (S.set n (.lst xs.dropLast))
    | none => .no
  | [.int i] => withL S d fun n xs => if 0 ≤ i ∧ i < xs.length ∧ xs.length ≤ BIG then match xs[i.toNat]? with
    | some y => .ok (.d y) (S.set n (.lst (xs.eraseIdx i.toNat)))
    | none => .no else .no
  | _ => .no else .no
/-- the place of the first item that is y -/
def idxF (y : D) (xs : List D) : Option Nat := if flatD y = true ∧ xs.all flatD = true then xs.findIdx? (fun z => eqF z y) else none
def mIndex : MF := fun T d ds S => if T = "str" then match d, ds with
  | .str a, [.str b] => match Builtin.Str.occurrences a b 0 a.length 1 with
    | i :: _ => .ok (.d (.int (i : Nat))) S
    | [] => .no
  | _, _ => .no else if T = "list" then match d, ds with
  | .ref n, [y] => match (listAt S n).bind (idxF y) with
    | some j => .ok (.d (.int (j : Nat))) S
    | none => .no
  | _, _ => .no else .no
def strsD : List D → Option (List Str)
  | [] => some []
  | .str x :: r => (strsD r).map (x :: ·)
  | _ :: _ => none
def seqD (d : D) (S : Sto) : Option (List D) := match d with
  | .tup ds => some ds
  | .kt ds => some ds
  | .ref n => listAt S n
  | _ => none
def mJoin : MF := fun T d ds S => if T = "str" then match d, ds with
  | .str a, [e] => match (seqD e S).bind strsD with
    | some ys => if (ys.map (·.length)).sum + ys.length * a.length ≤ 16777216 then .ok (.d (.str (Txt.join a ys))) S else .no
    | none => .no
  | _, _ => .no else .no
def mGet : MF := fun T d ds S => if T = "dict" then match d, ds with
  | .ref n, [k] => match getK S n k with
    | some r => .ok (.d (r.getD .non)) S
    | none => .no
  | .ref n, [k, x] => match getK S n k with
    | some r => .ok (.d (r.getD x)) S
    | none => .no
  | _, _ => .no else .no

section
variable {K : PySem.W.Frag} {ι : List Addr} {H : Hp} {mg : Str → Option Value} {X : Cx}
/-- a numbered object is changed -/
theorem SR.put {S : Sto} (sr : SR K ι H mg S) {n : Nat} {a : Addr} {o : O} {ho : HO} (hn : ι[n]? = some a) (g : Gro K ι H ι (upd H a ho)) (new : OR K ι (upd H a ho) mg o a) : SR K ι (upd H a ho) mg (S.set n o) := by
  refine ⟨by rw [List.length_set]; exact sr.len, sr.nd, fun m o' b e1 e2 => ?_⟩
  by_cases hm : m = n
  · subst hm
    rw [hn] at e2; cases e2
    have hl : m < S.length := by rw [← sr.len]; exact (List.getElem?_eq_some_iff.mp hn).1
    rw [List.getElem?_set_self hl] at e1
    cases e1
    exact new
  · rw [List.getElem?_set_ne (Ne.symm hm)] at e1
    have hb : b ≠ a := fun e => hm (L2.nd_ix sr.nd (e ▸ e2) hn)
    exact (sr.obj m o' b e1 e2).mono g.wk fun u q => by rw [upd_ne hb]; exact q
theorem RQ.putL {S : Sto} {n : Nat} {a : Addr} {d : D} {v : V} {xs ys : List D} {vs ws : List V} {Q : VK} (h : RQ K mg ι H (.ok (.d d) (S.set n (.lst ys))) Q) (sr : SR K ι H mg S) (hn : ι[n]? = some a) (ha : H a = some (.lst vs))
    (r : DRs K ι H ys ws) (dv : DR K ι H d v) : Q v (upd H a (.lst ws)) := by
  have g : Gro K ι H ι (upd H a (.lst ws)) := Gro.put sr hn (by rw [ha]; exact True.intro)
  exact h.use g (sr.put hn g ⟨ws, upd_same, r.mono g.wk⟩) (dv.mono g.wk)
theorem withL_use {S : Sto} {d : D} {v : V} {k : Nat → List D → R XR} {Q : VK} (sr : SR K ι H mg S) (dv : DR K ι H d v) (h : RQ K mg ι H (withL S d k) Q) :
    ∃ n a xs vs, v = .ref a ∧ ι[n]? = some a ∧ S[n]? = some (.lst xs) ∧ H a = some (.lst vs) ∧ DRs K ι H xs vs ∧ RQ K mg ι H (k n xs) Q := by
  unfold withL at h
  split at h
  · rename_i n
    split at h
    · rename_i xs e
      obtain ⟨a, rfl, ia⟩ := dv.ref
      obtain ⟨vs, ha, r⟩ := sr.lst e ia
      exact ⟨n, a, xs, vs, rfl, ia, e, ha, r, h⟩
    · exact h.no.elim
  · exact h.no.elim
theorem DRs.dropLast {ds : List D} {vs : List V} (h : DRs K ι H ds vs) : DRs K ι H ds.dropLast vs.dropLast := by
  rw [List.dropLast_eq_take, List.dropLast_eq_take, h.length]
  exact h.take _
theorem DRs.strs : ∀ {ds : List D} {ys : List Str} {vs : List V}, strsD ds = some ys → DRs K ι H ds vs → vs = ys.map V.str
  | [], ys, vs, h, r => by cases h; rw [DRs.nil_iff.mp r]; rfl
  | d :: ds, ys, vs, h, r => by
    obtain ⟨w, ws, rfl, q, r2⟩ := DRs.cons_iff.mp r
    cases d with
    | str x =>
      have h' : (strsD ds).map (x :: ·) = some ys := h
      cases h2 : strsD ds with
      | none => rw [h2] at h'; cases h'
      | some zs =>
        rw [h2] at h'; cases h'
        rw [q.str, DRs.strs h2 r2]; rfl
    | _ => cases h
theorem SR.seq {S : Sto} (sr : SR K ι H mg S) {d : D} {ds : List D} {v : V} (dv : DR K ι H d v) (h : seqD d S = some ds) : ∃ a vs, v = .ref a ∧ (SqL K H a vs ∨ SqT K H a vs) ∧ DRs K ι H ds vs := by
  cases d with
  | tup es => cases h; obtain ⟨a, vs, rfl, q, r⟩ := dv.tup; exact ⟨a, vs, rfl, .inr (SqT.of q), r⟩
  | kt es => cases h; obtain ⟨a, vs, rfl, q, r⟩ := dv.kt; exact ⟨a, vs, rfl, .inr (q H), r⟩
  | ref n => obtain ⟨a, rfl, ia⟩ := dv.ref; obtain ⟨vs, q, r⟩ := sr.list h ia; exact ⟨a, vs, rfl, .inl q, r⟩
  | _ => cases h
theorem ty_of {S : Sto} (sr : SR K ι H mg S) {d : D} {v : V} {T : String} (dv : DR K ι H d v) (h : tyD d S = some T) : tyV K T v H := by
  cases d with
  | str x => cases h; cases dv.str; exact rfl
  | ref n =>
    obtain ⟨a, rfl, ia⟩ := dv.ref
    unfold tyD at h
    simp only at h
    split at h
    · rename_i xs e
      cases h
      obtain ⟨vs, ha, r⟩ := sr.lst e ia
      exact .inl ⟨rfl, vs, SqL.of ha⟩
    · rename_i xs e
      cases h
      obtain ⟨vs, ha, r⟩ := sr.rol e ia
      exact .inl ⟨rfl, vs, .inl ha⟩
    · rename_i kvs e
      cases h
      obtain ⟨u, ha, c⟩ := sr.obj n _ a e ia
      refine .inr (.inr (.inl ⟨rfl, ?_⟩))
      rcases c with ⟨kv, rfl, _⟩ | ⟨kv, rfl, _⟩
      · exact .inl ⟨kv, ha⟩
      · exact .inr ⟨kv, ha⟩
    · cases h
  | _ => cases h
/-- how a method named name is done by F -/
structure MRule (X : Cx) (name : Str) (F : MF) (T id : String) (r : V → List V → Hp → VK → Prop) : Prop where
  pa : PlainAttrs T
  slot : Slot T name id
  ty : typeOf (.builtin id) = pure (.type "method_descriptor")
  rule : MtR X id r
  snd : ∀ {ι H S d ds v vs Q}, SR X.K ι H X.mg S → DR X.K ι H d v → DRs X.K ι H ds vs → RQ X.K X.mg ι H (F T d ds S) Q → r v vs H Q
def MOk (X : Cx) (name : Str) (F : MF) : Prop := ∀ T : String, (∃ id r, MRule X name F T id r) ∨ ∀ d ds S, F T d ds S = .no

theorem se_meth {o e : Expr} {es : List Expr} {name : Str} {apos cpos : Pos} {F : MF} {mo : M} {ma : MA} (hF : MOk X name F) (ho : SE X o mo) (ha : SA X (e :: es) ma)
    (hbase : attributeBase o name X.env (eval o X.env) = eval o X.env)
    (hfew : ((backTo cpos (starEach (e :: es) X.env)).all (fun x => !x.1) && (backToKw cpos (keywordEach [] X.env)).all (fun x => x.1.isSome)
      && decide ((e :: es).length + ([] : List Keyword).length + (if ([] : List Keyword).isEmpty then 0 else 1) < 30)) = true)
    (hline : (apos.endLine == cpos.line) = true) (hs : starEach (e :: es) X.env = (false, eval e X.env) :: starEach es X.env) (hplain : (backTo cpos (starEach es X.env)).any (·.1) = false) :
    SE X (.Call (.Attribute o name apos) (e :: es) [] cpos) (eMeth F mo ma) := by
  refine ⟨fun pins s σ H Q I h => ?_⟩
  obtain ⟨ι, st, S, sr, nr, h⟩ := h
  refine wpAny_Call_method_late hbase hfew hline rfl (thn (ho.run pins s σ H (fun x H1 => ∃ T id r, MRule X name F T id r ∧ tyV X.K T x H1 ∧ tMA X.K X.mg ma σ H1 fun xs H2 => r x xs H2 Q) I ⟨ι, st, S, sr, nr, bindD h fun d S1 ι1 H1 v g1 sr1 dr1 h1 => ?_⟩)
    fun v s1 ⟨x, H1, I1, r1, T, id, r, mr, ty, q1⟩ => ?_)
  · split at h1
    · rename_i T eT
      rcases hF T with ⟨id, r, mr⟩ | hno
      · exact ⟨T, id, r, mr, ty_of sr1 dr1 eT, ι1, st, S1, sr1, nr.mono g1.wk, bindAQ h1 fun ds S2 ι2 H2 vs g2 sr2 dr2 h2 => mr.snd sr2 (dr1.mono g2.wk) dr2 h2⟩
      · exfalso
        cases q : ma st S1 with
        | no => rw [q] at h1; exact h1.no
        | ok ds S2 =>
          rw [q] at h1
          have h2 : RQ X.K X.mg ι1 H1 (F T d ds S2) Q := h1
          rw [hno] at h2
          exact h2.no
    · exact h1.no.elim
  · obtain ⟨h1, h2⟩ := tyV_is I1 r1 ty
    refine ⟨T, id, mr.pa, mr.slot, mr.ty, h1, h2, ?_⟩
    have hA := ha.run cpos pins s1 σ H1 _ I1 q1
    rw [hs] at hA ⊢
    refine Calls.callWith_builtin (by show (false || (backTo cpos (starEach es X.env)).any (·.1)) = false; rw [hplain] <;> rfl) (Calls.evalArgs_plain ?_)
    exact thn hA fun us s2 ⟨vs, H2, I2, r2, q2⟩ => mr.rule pins s2 σ H2 x vs v us Q I2 r1 r2 q2
theorem se_meth0 {o : Expr} {name : Str} {apos cpos : Pos} {F : MF} {mo : M} (hF : MOk X name F) (ho : SE X o mo)
    (hbase : attributeBase o name X.env (eval o X.env) = eval o X.env) (hline : (apos.endLine == cpos.line) = true) :
    SE X (.Call (.Attribute o name apos) [] [] cpos) (eMeth F mo aNil) := by
  refine ⟨fun pins s σ H Q I h => ?_⟩
  obtain ⟨ι, st, S, sr, nr, h⟩ := h
  refine wpAny_Call_method0_late hbase hline (thn (ho.run pins s σ H (fun x H1 => ∃ T id r, MRule X name F T id r ∧ tyV X.K T x H1 ∧ r x [] H1 Q) I ⟨ι, st, S, sr, nr, bindD h fun d S1 ι1 H1 v g1 sr1 dr1 h1 => ?_⟩)
    fun v s1 ⟨x, H1, I1, r1, T, id, r, mr, ty, q1⟩ => ?_)
  · split at h1
    · rename_i T eT
      rcases hF T with ⟨id, r, mr⟩ | hno
      · exact ⟨T, id, r, mr, ty_of sr1 dr1 eT, mr.snd sr1 dr1 DRs.nil (show RQ X.K X.mg ι1 H1 (F T d [] S1) Q from h1)⟩
      · exfalso
        have h2 : RQ X.K X.mg ι1 H1 (F T d [] S1) Q := h1
        rw [hno] at h2
        exact h2.no
    · exact h1.no.elim
  · obtain ⟨h1, h2⟩ := tyV_is I1 r1 ty
    exact ⟨T, id, mr.pa, mr.slot, mr.ty, h1, h2, Calls.callWith_builtin rfl (PySem.evalArgs_none (mr.rule pins s1 σ H1 x [] v [] Q I1 r1 .nil q1))⟩

theorem m_append : MOk X "append" mAppend := fun T => by
  by_cases hT : T = "list"
  · subst hT
    refine .inl ⟨_, rAppend, PySem.F.plainAttrs_list, PySem.F.slot_list_append, PySem.F.type_list_append, mt_append, fun sr dv ds h => ?_⟩
    unfold mAppend at h
    rw [if_pos rfl] at h
    split at h
    · rename_i y
      obtain ⟨w, ws, rfl, q, r⟩ := DRs.cons_iff.mp ds
      cases DRs.nil_iff.mp r
      obtain ⟨n, a, xs, vs, rfl, ia, e, ha, r, h⟩ := withL_use sr dv h
      split at h
      · rename_i hz
        exact ⟨a, vs, w, rfl, rfl, ha, by rw [r.length]; exact big_lt hz, h.putL (xs := xs) sr ia ha (r.append (DRs.cons q DRs.nil)) rfl⟩
      · exact h.no.elim
    · exact h.no.elim
  · exact .inr fun d ds S => by unfold mAppend; rw [if_neg hT]
end
end Ev
namespace PySem.AutoSeq1
/-- l.extend(t), t a tuple -/
theorem ev_extend_tup (l : Addr) (items : Array Value) (n : Nat) (b : Addr) (items2 : Array Value) (n2 : Nat) (dd : Option Addr) (sl : Array (Option Value)) (hs0 : ¬(!items.isEmpty && Builtin.List.listTooLong (items.size + items2.size)) = true) (hs1 : items.size ≤ sizeLine) (hs2 : items.size + items2.size ≤ sizeLine + 1) :
    Meets (Builtin.«list.extend» ⟨[.ref l, .ref b], []⟩) (fun _ R s => s.heap.get? l = some { cls := .type "list", dict := none, data := .seq items n, slots := #[] } ∧ s.heap.get? b = some { cls := .type "tuple", dict := dd, data := .seq items2 n2, slots := sl } ∧ R (.ok (.ret Value.none)) { s with heap := s.heap.update l (Obj.mapSeq fun x => x ++ items2), toks := s.toks }) :=
  .of_wp fun prog w A R s h => by
    obtain ⟨hp, g, d, tk, os⟩ := s; obtain ⟨hl, hb, h⟩ := h; have f1 := idx_int; have f2 := sub_tuple_tuple; have f3 := sub_list_list; have f4 := sub_tuple_list; have f5 := sub_list_tuple;
    have hz' : (items ++ items2).size ≤ sizeLine + 1 := by rw [Array.size_append]; exact hs2
    wp_walk using (wpAny_updateSeq hl rfl (hz := hs1) (_hz' := hz')), wpAny_loadPart' hl, wpAny_loadPart' hb; exact ⟨_, rfl, h⟩
end PySem.AutoSeq1
namespace Ev
open PySem L2 PyProof.Rows
section
variable {K : PySem.W.Frag} {ι : List Addr} {H : Hp} {mg : Str → Option Value} {X : Cx}
def rExtT (K : PySem.W.Frag) : V → List V → Hp → VK → Prop := fun x vs H Q => ∃ l b xs zs, x = .ref l ∧ vs = [.ref b] ∧ H l = some (.lst xs) ∧ SqT K H b zs ∧ xs.length + zs.length ≤ sizeLine ∧ Q .non (upd H l (.lst (xs ++ zs)))
theorem mt_extT : MtR X "list.extend" (rExtT X.K) := by
  intro pins s σ H x vs v us Q I rx rv h
  obtain ⟨l, b, xs, zs, rfl, rfl, hH, hB, hz, q⟩ := h
  cases rx
  obtain ⟨u, rfl, ru⟩ := rv.one
  cases ru
  obtain ⟨z, its, n, r, hl, e⟩ := I.lstM hH
  obtain ⟨its2, r2, ⟨o2, e2, c2, n2, d2⟩, _⟩ := I.tuple hB
  obtain ⟨oc, od, odat, osl⟩ := o2
  cases c2
  cases d2
  have hl2 := r2.length
  have hsz : its.toArray.size + its2.toArray.size ≤ sizeLine := by rw [List.size_toArray, List.size_toArray]; omega
  have hlong : ¬ (!its.toArray.isEmpty && Builtin.List.listTooLong (its.toArray.size + its2.toArray.size)) = true := by
    rw [notLongL hsz, Bool.and_false]
    exact Bool.false_ne_true
  refine call_meets F.slot_list_extend ⟨_, e, rfl⟩ F.entry_list_extend (F.args_list_extend_2 _ _)
    (AutoSeq1.ev_extend_tup l its.toArray n b its2.toArray n2 od osl hlong (by rw [List.size_toArray]; omega) (by omega)) ⟨e, e2, ?_⟩
  refine ⟨.non, _, I.lset (its' := its ++ its2) hH e (by simp) (r.append r2) ?_, rfl, q⟩
  rw [List.length_append]
  omega
theorem m_extend : MOk X "extend" mExtend := fun T => by
  by_cases hT : T = "list"
  · subst hT
    refine .inl ⟨_, _, PySem.F.plainAttrs_list, PySem.F.slot_list_extend, PySem.F.type_list_extend, MtR.or mt_extend mt_extT, fun sr dv ds h => ?_⟩
    unfold mExtend at h
    rw [if_pos rfl] at h
    split at h
    · obtain ⟨w, ws, rfl, q, r⟩ := DRs.cons_iff.mp ds
      cases DRs.nil_iff.mp r
      obtain ⟨n, a, xs, vs, rfl, ia, e, ha, r, h⟩ := withL_use sr dv h
      split at h
      · rename_i hz
        obtain ⟨b, zs, rfl, qb, rb⟩ := q.tup
        exact .inr ⟨a, b, vs, zs, rfl, rfl, ha, SqT.of qb, by rw [r.length, rb.length]; exact big_le hz, h.putL (xs := xs) sr ia ha (r.append rb) rfl⟩
      · exact h.no.elim
    · obtain ⟨w, ws, rfl, q, r⟩ := DRs.cons_iff.mp ds
      cases DRs.nil_iff.mp r
      obtain ⟨n, a, xs, vs, rfl, ia, e, ha, r, h⟩ := withL_use sr dv h
      split at h
      · rename_i ys e2
        split at h
        · rename_i hz
          obtain ⟨b, rfl, ib⟩ := q.ref
          obtain ⟨zs, hb, rb⟩ := sr.lst e2 ib
          exact .inl ⟨a, b, vs, zs, rfl, rfl, ha, hb, by rw [r.length, rb.length]; exact big_le hz, h.putL (xs := xs) sr ia ha (r.append rb) rfl⟩
        · exact h.no.elim
      · exact h.no.elim
    · exact h.no.elim
  · exact .inr fun d ds S => by unfold mExtend; rw [if_neg hT]
theorem m_pop : MOk X "pop" mPop := fun T => by
  by_cases hT : T = "list"
  · subst hT
    refine .inl ⟨_, _, PySem.F.plainAttrs_list, PySem.F.slot_list_pop, PySem.F.type_list_pop, MtR.or mt_pop mt_popAt, fun sr dv ds h => ?_⟩
    unfold mPop at h
    rw [if_pos rfl] at h
    split at h
    · cases DRs.nil_iff.mp ds
      obtain ⟨n, a, xs, vs, rfl, ia, e, ha, r, h⟩ := withL_use sr dv h
      split at h
      · rename_i y ey
        obtain ⟨w, ew, dw⟩ := r.get ey
        exact .inl ⟨a, vs, w, rfl, rfl, ha, by rw [r.length]; exact ew, h.putL (xs := xs) sr ia ha r.dropLast dw⟩
      · exact h.no.elim
    · rename_i i
      obtain ⟨w, ws, rfl, q, r⟩ := DRs.cons_iff.mp ds
      cases DRs.nil_iff.mp r
      cases q.int
      obtain ⟨n, a, xs, vs, rfl, ia, e, ha, r, h⟩ := withL_use sr dv h
      split at h
      · rename_i hz
        split at h
        · rename_i y ey
          obtain ⟨w, ew, dw⟩ := r.get ey
          exact .inr ⟨a, vs, i, i.toNat, w, rfl, rfl, ha, by omega, by have := hz.2.2; have hb : BIG = 10000000 := rfl; omega, by rw [r.length]; exact PySem.StrLaws.seqIndex_nonneg hz.1 hz.2.1, ew, h.putL (xs := xs) sr ia ha (r.eraseIdx _) dw⟩
        · exact h.no.elim
      · exact h.no.elim
    · exact h.no.elim
  · exact .inr fun d ds S => by unfold mPop; rw [if_neg hT]
theorem findIdx_first {α : Type} {p : α → Bool} : ∀ {l : List α} {j : Nat}, l.findIdx? p = some j → ∃ z, l[j]? = some z ∧ p z = true ∧ ∀ m z', m < j → l[m]? = some z' → p z' = false
  | [], j, h => by simp at h
  | x :: l, j, h => by
    rw [List.findIdx?_cons] at h
    cases hx : p x with
    | true =>
      rw [hx] at h
      simp at h
      subst h
      exact ⟨x, rfl, hx, fun m z' hm => absurd hm (Nat.not_lt_zero m)⟩
    | false =>
      rw [hx] at h
      simp only [Bool.false_eq_true, if_false] at h
      cases h2 : l.findIdx? p with
      | none => rw [h2] at h; simp at h
      | some i =>
        rw [h2] at h
        simp at h
        subst h
        obtain ⟨z, h3, h4, h5⟩ := findIdx_first h2
        refine ⟨z, by simpa using h3, h4, fun m z' hm e => ?_⟩
        cases m with
        | zero => simp at e; subst e; exact hx
        | succ m => exact h5 m z' (by omega) (by simpa using e)
theorem m_index : MOk X "index" mIndex := fun T => by
  by_cases hT : T = "str"
  · subst hT
    refine .inl ⟨_, _, PySem.F.plainAttrs_str, PySem.F.slot_str_index, PySem.F.type_str_index, mt_sindex, fun sr dv ds h => ?_⟩
    unfold mIndex at h
    rw [if_pos rfl] at h
    split at h
    · rename_i a b
      obtain ⟨w, ws, rfl, q, r⟩ := DRs.cons_iff.mp ds
      cases DRs.nil_iff.mp r
      cases q.str
      cases dv.str
      split at h
      · rename_i i rest e
        exact ⟨a, b, i, rest, rfl, rfl, e, h.here sr rfl⟩
      · exact h.no.elim
    · exact h.no.elim
  · by_cases hT2 : T = "list"
    · subst hT2
      refine .inl ⟨_, _, PySem.F.plainAttrs_list, PySem.F.slot_list_index, PySem.F.type_list_index, mt_index, fun sr dv ds h => ?_⟩
      unfold mIndex at h
      rw [if_neg hT, if_pos rfl] at h
      split at h
      · rename_i n y
        obtain ⟨w, ws, rfl, q, r⟩ := DRs.cons_iff.mp ds
        cases DRs.nil_iff.mp r
        split at h
        · rename_i j e
          cases e1 : listAt _ n with
          | none => rw [e1] at e; cases e
          | some xs =>
            rw [e1] at e
            have e2 : idxF y xs = some j := e
            unfold idxF at e2
            split at e2
            · rename_i hf
              obtain ⟨a, rfl, ia⟩ := dv.ref
              obtain ⟨vs, qs, r⟩ := sr.list e1 ia
              obtain ⟨z, h1, h2, h3⟩ := findIdx_first e2
              obtain ⟨zv, hz1, hz2⟩ := r.get h1
              have fl := List.all_eq_true.mp hf.2
              have fz : flatD z = true := fl z (List.mem_of_getElem? h1)
              have allv : vs.all flatV = true := by
                refine List.all_eq_true.mpr fun v hv => ?_
                obtain ⟨m, hm⟩ := List.mem_iff_getElem?.mp hv
                obtain ⟨d, hd1, hd2⟩ := r.getV hm
                exact flat_rel hd2 (fl d (List.mem_of_getElem? hd1))
              refine ⟨a, vs, w, j, zv, rfl, rfl, qs, flat_rel q hf.1, allv, hz1, by rw [eqF_rel hz2 q fz hf.1]; exact h2, fun m z' hm e => ?_, h.here sr rfl⟩
              obtain ⟨d, hd1, hd2⟩ := r.getV e
              rw [eqF_rel hd2 q (fl d (List.mem_of_getElem? hd1)) hf.1]
              exact h3 m d hm hd1
            · cases e2
        · exact h.no.elim
      · exact h.no.elim
    · exact .inr fun d ds S => by unfold mIndex; rw [if_neg hT, if_neg hT2]
theorem m_join : MOk X "join" mJoin := fun T => by
  by_cases hT : T = "str"
  · subst hT
    refine .inl ⟨_, _, PySem.F.plainAttrs_str, PySem.F.slot_str_join, PySem.F.type_str_join, mt_join, fun sr dv ds h => ?_⟩
    unfold mJoin at h
    rw [if_pos rfl] at h
    split at h
    · rename_i a e
      obtain ⟨w, ws, rfl, q, r⟩ := DRs.cons_iff.mp ds
      cases DRs.nil_iff.mp r
      cases dv.str
      split at h
      · rename_i ys ey
        split at h
        · rename_i hz
          cases e1 : seqD e _ with
          | none => rw [e1] at ey; cases ey
          | some es =>
            rw [e1] at ey
            obtain ⟨p, vs, rfl, hs, r⟩ := sr.seq q e1
            have ev := DRs.strs (show strsD es = some ys from ey) r
            subst ev
            exact ⟨a, p, ys, rfl, rfl, hs, hz, h.here sr rfl⟩
        · exact h.no.elim
      · exact h.no.elim
    · exact h.no.elim
  · exact .inr fun d ds S => by unfold mJoin; rw [if_neg hT]
def rGetA : V → List V → Hp → VK → Prop := fun x vs H Q => ∃ a o, x = .ref a ∧ ((∃ y, vs = [y] ∧ DGx H a y o ∧ Q (o.getD .non) H) ∨ ∃ y z, vs = [y, z] ∧ DGx H a y o ∧ Q (o.getD z) H)
theorem mt_getA (hu : X.A.units + 1 < cLine) : MtR X "dict.get" rGetA := by
  intro pins s σ H x vs v us Q I rx rv h
  obtain ⟨a, o, rfl, h⟩ := h
  cases rx
  rcases h with ⟨y, rfl, g, q⟩ | ⟨y, z, rfl, g, q⟩
  · obtain ⟨u, rfl, ru⟩ := rv.one
    exact dx_get1 hu I g ru fun w' s' I' r => ⟨_, H, I', r, q⟩
  · obtain ⟨u, u2, rfl, ru, ru2⟩ := rv.two
    exact dx_get2 hu I g ru ru2 fun w' s' I' r => ⟨_, H, I', r, q⟩
theorem m_get (hu : X.A.units + 1 < cLine) : MOk X "get" mGet := fun T => by
  by_cases hT : T = "dict"
  · subst hT
    refine .inl ⟨_, _, PySem.F.plainAttrs_dict, PySem.F.slot_dict_get, PySem.F.type_dict_get, mt_getA hu, fun sr dv ds h => ?_⟩
    unfold mGet at h
    rw [if_pos rfl] at h
    split at h
    · obtain ⟨w, ws, rfl, q, r⟩ := DRs.cons_iff.mp ds
      cases DRs.nil_iff.mp r
      obtain ⟨a, rfl, ia⟩ := dv.ref
      split at h
      · rename_i r e
        rcases get_of sr e ia q with ⟨rfl, g⟩ | ⟨d, z, rfl, g, dz⟩
        · exact ⟨a, none, rfl, .inl ⟨w, rfl, g, h.here sr rfl⟩⟩
        · exact ⟨a, some z, rfl, .inl ⟨w, rfl, g, h.here sr dz⟩⟩
      · exact h.no.elim
    · obtain ⟨w, ws, rfl, q, r⟩ := DRs.cons_iff.mp ds
      obtain ⟨w2, ws2, rfl, q2, r⟩ := DRs.cons_iff.mp r
      cases DRs.nil_iff.mp r
      obtain ⟨a, rfl, ia⟩ := dv.ref
      split at h
      · rename_i r e
        rcases get_of sr e ia q with ⟨rfl, g⟩ | ⟨d, z, rfl, g, dz⟩
        · exact ⟨a, none, rfl, .inr ⟨w, w2, rfl, g, h.here sr q2⟩⟩
        · exact ⟨a, some z, rfl, .inr ⟨w, w2, rfl, g, h.here sr dz⟩⟩
      · exact h.no.elim
    · exact h.no.elim
  · exact .inr fun d ds S => by unfold mGet; rw [if_neg hT]
end
end Ev
/-! EvG: calls of built-ins -/
namespace Ev
open PySem L2 PyProof.Rows

/-- f(a), f a built-in; a just made list may be taken as it is -/
def eBi1 (f : XR → Sto → R XR) (a : M) : M := fun s S => (a s S).bind fun x S1 => f x S1
def eBi2 (f : D → D → Sto → R XR) (a b : M) : M := eOp f a b
def seqX (x : XR) (S : Sto) : Option (List D) := match x with
  | .d d => seqD d S
  | .tl ds => some ds
def isLX (x : XR) : Bool := match x with
  | .d (.ref _) => true
  | .tl _ => true
  | _ => false
def bLen (x : XR) (S : Sto) : R XR := match x with
  | .d (.str z) => if z.length ≤ BIG then .ok (.d (.int (z.length : Nat))) S else .no
  | .d (.ref n) => match S[n]? with
    | some (.dct kvs) => .ok (.d (.int (kvs.length : Nat))) S
    | _ => match listAt S n with
      | some ds => .ok (.d (.int (ds.length : Nat))) S
      | none => .no
  | x => match seqX x S with
    | some ds => .ok (.d (.int (ds.length : Nat))) S
    | none => .no
/-- tuple(x) -/
def bTuple (x : XR) (S : Sto) : R XR := match x with
  | .d (.kt _) => .no
  | x => match seqX x S with
    | some ds => .ok (.d (.tup ds)) S
    | none => .no
/-- list(x) -/
def bList (x : XR) (S : Sto) : R XR := match seqX x S with
  | some ds => .ok (.tl ds) S
  | none => .no
def blsD : List D → Option (List Bool)
  | [] => some []
  | .bl x :: r => (blsD r).map (x :: ·)
  | _ :: _ => none
def intsD : List D → Option (List Int)
  | [] => some []
  | .int x :: r => (intsD r).map (x :: ·)
  | _ :: _ => none
def listX (x : XR) (S : Sto) : Option (List D) := match x with
  | .d (.ref n) => listAt S n
  | .tl ds => some ds
  | _ => none
def bAll (x : XR) (S : Sto) : R XR := blR (((listX x S).bind blsD).map (·.all id)) S
def bAny (x : XR) (S : Sto) : R XR := blR (((listX x S).bind blsD).map (·.any id)) S
def bSum (x : XR) (S : Sto) : R XR := match (listX x S).bind intsD with
  | some ns => .ok (.d (.int ns.sum)) S
  | none => .no
def bInt (x : XR) (S : Sto) : R XR := match x with
  | .d (.int i) => .ok (.d (.int i)) S
  | .d (.bl k) => .ok (.d (.int (if k then 1 else 0))) S
  | _ => .no
def bAbs (x : XR) (S : Sto) : R XR := match x with
  | .d (.int i) => .ok (.d (.int (if i < 0 then -i else i))) S
  | _ => .no
def bMax2 (d e : D) (S : Sto) : R XR := match d, e with
  | .int i, .int j => .ok (.d (.int (if j > i then j else i))) S
  | _, _ => .no
def bMin2 (d e : D) (S : Sto) : R XR := match d, e with
  | .int i, .int j => .ok (.d (.int (if j < i then j else i))) S
  | _, _ => .no
/-- sorted of fewer than 64 ints -/
def bSorted (x : XR) (S : Sto) : R XR := match (listX x S).bind intsD with
  | some ns => if ns.length < 64 then .ok (.tl ((ns.mergeSort (fun a b => decide (a ≤ b))).map .int)) S else .no
  | none => .no
/-- the built-in type of a value -/
def tyName (d : D) (S : Sto) : Option String := match d with
  | .non => some "NoneType"
  | .bl _ => some "bool"
  | .int _ => some "int"
  | .str _ => some "str"
  | .tup _ => some "tuple"
  | .kt _ => some "tuple"
  | .ref n => match S[n]? with
    | some (.lst _) => some "list"
    | some (.rol _) => some "list"
    | some (.dct _) => some "dict"
    | _ => none
def kitAnyB (a : String) : List String → Option Bool
  | [] => some false
  | T :: Ts => match kitB a T with
    | some true => some true
    | some false => kitAnyB a Ts
    | none => none
/-- isinstance(d, T), isinstance(d, (T, ..)) for built-in types -/
def eIsi (T : String) (a : M) : M := fun s S => (force (a s S)).bind fun d S1 => blR ((tyName d S1).bind fun t => kitB t T) S1
def eIsiT (Ts : List String) (a : M) : M := fun s S => (force (a s S)).bind fun d S1 => blR ((tyName d S1).bind fun t => kitAnyB t Ts) S1

section
variable {K : PySem.W.Frag} {ι ι0 : List Addr} {H H0 : Hp} {mg : Str → Option Value} {X : Cx}
theorem seqX_of {S : Sto} (sr : SR K ι H mg S) {x : XR} {ds : List D} {v : V} (xr : XRel K ι H H0 x v) (h : seqX x S = some ds) : ∃ a vs, v = .ref a ∧ (SqL K H a vs ∨ SqT K H a vs) ∧ DRs K ι H ds vs := by
  cases x with
  | d d => exact sr.seq xr h
  | tl es =>
    cases h
    obtain ⟨a, vs, e, _, ha, _, r⟩ := xr
    exact ⟨a, vs, e, .inl (SqL.of ha), r⟩
theorem listX_of {S : Sto} (sr : SR K ι H mg S) {x : XR} {ds : List D} {v : V} (xr : XRel K ι H H0 x v) (h : listX x S = some ds) : ∃ a vs, v = .ref a ∧ SqL K H a vs ∧ DRs K ι H ds vs := by
  unfold listX at h
  split at h
  · obtain ⟨a, rfl, ia⟩ := DR.ref (show DR K ι H (.ref _) v from xr)
    obtain ⟨vs, q, r⟩ := sr.list h ia
    exact ⟨a, vs, rfl, q, r⟩
  · cases h
    obtain ⟨a, vs, e, _, ha, _, r⟩ := xr
    exact ⟨a, vs, e, SqL.of ha, r⟩
  · cases h
theorem DRs.bls : ∀ {ds : List D} {ys : List Bool} {vs : List V}, blsD ds = some ys → DRs K ι H ds vs → vs = ys.map V.bl
  | [], ys, vs, h, r => by cases h; rw [DRs.nil_iff.mp r]; rfl
  | d :: ds, ys, vs, h, r => by
    obtain ⟨w, ws, rfl, q, r2⟩ := DRs.cons_iff.mp r
    cases d with
    | bl x =>
      have h' : (blsD ds).map (x :: ·) = some ys := h
      cases h2 : blsD ds with
      | none => rw [h2] at h'; cases h'
      | some zs =>
        rw [h2] at h'; cases h'
        rw [q.bl, DRs.bls h2 r2]; rfl
    | _ => cases h
theorem DRs.intsD : ∀ {ds : List D} {ys : List Int} {vs : List V}, Ev.intsD ds = some ys → DRs K ι H ds vs → vs = ys.map V.int
  | [], ys, vs, h, r => by cases h; rw [DRs.nil_iff.mp r]; rfl
  | d :: ds, ys, vs, h, r => by
    obtain ⟨w, ws, rfl, q, r2⟩ := DRs.cons_iff.mp r
    cases d with
    | int x =>
      have h' : (Ev.intsD ds).map (x :: ·) = some ys := h
      cases h2 : Ev.intsD ds with
      | none => rw [h2] at h'; cases h'
      | some zs =>
        rw [h2] at h'; cases h'
        rw [q.int, DRs.intsD h2 r2]; rfl
    | _ => cases h
/-- a rule on one value, for an evaluation -/
abbrev Bi1 (X : Cx) (f : XR → Sto → R XR) (r : List V → Hp → VK → Prop) : Prop :=
  ∀ {ι0 H0 ι H S x v Q}, Gro X.K ι0 H0 ι H → SR X.K ι H X.mg S → XRel X.K ι H H0 x v → RQ X.K X.mg ι0 H0 (f x S) Q → r [v] H Q
theorem bi1_tM {f : XR → Sto → R XR} {r : List V → Hp → VK → Prop} {ma : M} (k : Bi1 X f r) : ∀ σ H Q, tM X.K X.mg (eBi1 f ma) σ H Q → tCB r (tCons (tM X.K X.mg ma) tNil) σ H Q := fun σ H Q ⟨ι, s, S, sr, nr, h⟩ =>
  ⟨ι, s, S, sr, nr, bindX h fun x S1 ι1 H1 v g1 sr1 xr1 h1 => k g1 sr1 xr1 h1⟩
theorem se_bi1 {f : XR → Sto → R XR} {r : List V → Hp → VK → Prop} {ma : M} {x : Str} {id : String} {e : Expr} {p pos : Pos} (k : Bi1 X f r) (hc : CallR X (.builtin id) r) (hg : Gl X x) (hm : X.mg x = none) (hv : bootBuiltins x = some (.builtin id)) (ha : SE X e ma) (hn : x ≠ "__name__") (hdb : (x == ("__debug__" : Str)) = false)
    (he : starEach [e] X.env = (false, eval e X.env) :: starEach [] X.env) : SE X (.Call (.Name x p) [e] [] pos) (eBi1 f ma) :=
  pe_imp (pe_callB hc hg hm hv (pa_cons ha pa_nil he) hn hdb he rfl) (bi1_tM k)
theorem se_ty1 {f : XR → Sto → R XR} {r : List V → Hp → VK → Prop} {ma : M} {x : Str} {T : String} {e : Expr} {p pos : Pos} (k : Bi1 X f r) (hc : CallR X (.type T) r) (hg : Gl X x) (hm : X.mg x = none) (hv : bootBuiltins x = some (.type T)) (ha : SE X e ma) (hn : x ≠ "__name__") (hdb : (x == ("__debug__" : Str)) = false)
    (he : starEach [e] X.env = (false, eval e X.env) :: starEach [] X.env) : SE X (.Call (.Name x p) [e] [] pos) (eBi1 f ma) :=
  pe_imp (pe_callTy hc hg hm hv (pa_cons ha pa_nil he) hn hdb he rfl) (bi1_tM k)
theorem se_bi2 {f : D → D → Sto → R XR} {r : List V → Hp → VK → Prop} {ma mb : M} {x : Str} {id : String} {a b : Expr} {p pos : Pos} (k : ∀ {ι H S d e v w Q}, SR X.K ι H X.mg S → DR X.K ι H d v → DR X.K ι H e w → RQ X.K X.mg ι H (f d e S) Q → r [v, w] H Q)
    (hc : CallR X (.builtin id) r) (hg : Gl X x) (hm : X.mg x = none) (hv : bootBuiltins x = some (.builtin id)) (ha : SE X a ma) (hb : SE X b mb) (hn : x ≠ "__name__") (hdb : (x == ("__debug__" : Str)) = false)
    (he : starEach [a, b] X.env = (false, eval a X.env) :: starEach [b] X.env) (he2 : starEach [b] X.env = (false, eval b X.env) :: starEach [] X.env) : SE X (.Call (.Name x p) [a, b] [] pos) (eOp f ma mb) :=
  pe_imp (pe_callB hc hg hm hv (pa_cons ha (pa_cons hb pa_nil he2) he) hn hdb he (by rw [he2]; rfl)) fun σ H Q h =>
    op_tM (a := a) (b := b) (r := fun v w H Q => r [v, w] H Q) k σ H Q h

theorem callR_len : CallR X (.builtin "len") (fun xs H Q => (∃ x n, xs = [x] ∧ LenV X.K x H n ∧ Q (.int n) H) ∨ (∃ a kvs, xs = [V.ref a] ∧ H a = some (.dK kvs) ∧ Q (.int kvs.length) H) ∨ rLenT xs H Q) := call_len.or (call_lenD.or call_len_dT)
theorem bi_len : Bi1 X bLen (fun xs H Q => (∃ x n, xs = [x] ∧ LenV X.K x H n ∧ Q (.int n) H) ∨ (∃ a kvs, xs = [V.ref a] ∧ H a = some (.dK kvs) ∧ Q (.int kvs.length) H) ∨ rLenT xs H Q) := fun {ι0 H0 ι H S x v Q} g sr xr h => by
  unfold bLen at h
  split at h
  · split at h
    · rename_i z hz
      cases DR.str (show DR X.K ι H (.str z) v from xr)
      exact .inl ⟨_, z.length, rfl, ⟨big_le hz, rfl⟩, h.use g sr rfl⟩
    · exact h.no.elim
  · rename_i n
    obtain ⟨a, rfl, ia⟩ := DR.ref (show DR X.K ι H (.ref n) v from xr)
    split at h
    · rename_i kvs e
      obtain ⟨u, ha, c⟩ := sr.obj n _ a e ia
      rcases c with ⟨kv, rfl, p⟩ | ⟨kv, rfl, p⟩
      · refine .inr (.inl ⟨a, kv, rfl, ha, ?_⟩)
        rw [← Paired.length p]; exact h.use g sr rfl
      · refine .inr (.inr ⟨a, kv, rfl, ha, ?_⟩)
        rw [← Paired.length p]; exact h.use g sr rfl
    · split at h
      · rename_i ds e
        obtain ⟨vs, q, r⟩ := sr.list e ia
        refine .inl ⟨_, vs.length, rfl, .inl ⟨vs, q, rfl⟩, ?_⟩
        rw [r.length]; exact h.use g sr rfl
      · exact h.no.elim
  · split at h
    · rename_i ds e
      obtain ⟨a, vs, rfl, q, r⟩ := seqX_of sr xr e
      refine .inl ⟨_, vs.length, rfl, ?_, ?_⟩
      · rcases q with q | q
        · exact .inl ⟨vs, q, rfl⟩
        · exact .inr ⟨vs, q, rfl⟩
      · rw [r.length]; exact h.use g sr rfl
    · exact h.no.elim
/-- a new object, behind what has come -/
theorem RQ.newL' {ds : List D} {S : Sto} {Q : VK} (h : RQ K mg ι0 H0 (.ok (.tl ds) S) Q) (g : Gro K ι0 H0 ι H) (sr : SR K ι H mg S) {vs : List V} (dr : DRs K ι H ds vs) : ∀ p, H p = none → Q (.ref p) (upd H p (.lst vs)) :=
  RQ.newL (h.later g) sr dr
theorem RQ.newT' {ds : List D} {S : Sto} {Q : VK} (h : RQ K mg ι0 H0 (.ok (.d (.tup ds)) S) Q) (g : Gro K ι0 H0 ι H) (sr : SR K ι H mg S) {vs : List V} (dr : DRs K ι H ds vs) : ∀ p, H p = none → Q (.ref p) (upd H p (.tup vs)) :=
  RQ.newT (h.later g) sr dr
theorem bi_tuple : Bi1 X bTuple (fun xs H Q => ∃ p ys, xs = [.ref p] ∧ ((SqL X.K H p ys ∧ ∀ l, H l = none → Q (.ref l) (upd H l (.tup ys))) ∨ (SqT X.K H p ys ∧ Q (.ref p) H))) := fun {ι0 H0 ι H S x v Q} g sr xr h => by
  unfold bTuple at h
  split at h
  · exact h.no.elim
  · rename_i hx
    split at h
    · rename_i ds e
      cases x with
      | tl es =>
        cases e
        obtain ⟨a, vs, e, _, ha, _, r⟩ := xr
        exact ⟨a, vs, by rw [e], .inl ⟨SqL.of ha, h.newT' g sr r⟩⟩
      | d d =>
        cases d with
        | tup es =>
          cases e
          obtain ⟨a, vs, rfl, q, r⟩ := DR.tup (show DR X.K ι H (.tup ds) v from xr)
          exact ⟨a, vs, rfl, .inr ⟨SqT.of q, h.use g sr (show DR X.K ι H (.tup ds) (.ref a) from ⟨a, vs, rfl, q, r⟩)⟩⟩
        | kt es => exact absurd rfl (hx es)
        | ref n =>
          obtain ⟨a, rfl, ia⟩ := DR.ref (show DR X.K ι H (.ref n) v from xr)
          obtain ⟨vs, q, r⟩ := sr.list e ia
          exact ⟨a, vs, rfl, .inl ⟨q, h.newT' g sr r⟩⟩
        | _ => cases e
    · exact h.no.elim
theorem bi_list : Bi1 X bList (fun xs H Q => ∃ p ys, xs = [.ref p] ∧ (SqL X.K H p ys ∨ SqT X.K H p ys) ∧ ∀ l, H l = none → Q (.ref l) (upd H l (.lst ys))) := fun {ι0 H0 ι H S x v Q} g sr xr h => by
  unfold bList at h
  split at h
  · rename_i ds e
    obtain ⟨a, vs, rfl, q, r⟩ := seqX_of sr xr e
    exact ⟨a, vs, rfl, q, h.newL' g sr r⟩
  · exact h.no.elim
theorem bi_all : Bi1 X bAll (rAll X.K) := fun {ι0 H0 ι H S x v Q} g sr xr h => by
  obtain ⟨b, e, q⟩ := (show ∃ b, ((listX x S).bind blsD).map (·.all id) = some b ∧ RQ X.K X.mg ι0 H0 (.ok (.d (.bl b)) S) Q by
    unfold bAll blR at h
    split at h
    · rename_i b e; exact ⟨b, e, h⟩
    · exact h.no.elim)
  cases e1 : listX x S with
  | none => rw [e1] at e; cases e
  | some ds =>
    rw [e1] at e
    cases e2 : blsD ds with
    | none => simp [e2] at e
    | some bs =>
      simp [e2] at e
      obtain ⟨a, vs, rfl, qs, r⟩ := listX_of sr xr e1
      have := DRs.bls e2 r
      subst this
      refine ⟨a, bs, rfl, qs, ?_⟩
      have e' : bs.all id = b := by first | exact e | simpa using e | (rw [← e] <;> simp)
      rw [e']
      exact q.use g sr rfl
theorem bi_any : Bi1 X bAny (rAny X.K) := fun {ι0 H0 ι H S x v Q} g sr xr h => by
  obtain ⟨b, e, q⟩ := (show ∃ b, ((listX x S).bind blsD).map (·.any id) = some b ∧ RQ X.K X.mg ι0 H0 (.ok (.d (.bl b)) S) Q by
    unfold bAny blR at h
    split at h
    · rename_i b e; exact ⟨b, e, h⟩
    · exact h.no.elim)
  cases e1 : listX x S with
  | none => rw [e1] at e; cases e
  | some ds =>
    rw [e1] at e
    cases e2 : blsD ds with
    | none => simp [e2] at e
    | some bs =>
      simp [e2] at e
      obtain ⟨a, vs, rfl, qs, r⟩ := listX_of sr xr e1
      have := DRs.bls e2 r
      subst this
      refine ⟨a, bs, rfl, qs, ?_⟩
      have e' : bs.any id = b := by first | exact e | simpa using e | (rw [← e] <;> simp)
      rw [e']
      exact q.use g sr rfl
theorem bi_sum : Bi1 X bSum (rSum X.K) := fun {ι0 H0 ι H S x v Q} g sr xr h => by
  unfold bSum at h
  split at h
  · rename_i ns e
    cases e1 : listX x S with
    | none => rw [e1] at e; cases e
    | some ds =>
      rw [e1] at e
      obtain ⟨a, vs, rfl, qs, r⟩ := listX_of sr xr e1
      have := DRs.intsD (show Ev.intsD ds = some ns from e) r
      subst this
      exact ⟨a, ns, rfl, qs, h.use g sr rfl⟩
  · exact h.no.elim
theorem bi_int : Bi1 X bInt (fun xs H Q => (∃ i, xs = [.int i] ∧ Q (.int i) H) ∨ ∃ k, xs = [.bl k] ∧ Q (.int (if k then 1 else 0)) H) := fun {ι0 H0 ι H S x v Q} g sr xr h => by
  unfold bInt at h
  split at h
  · rename_i i
    cases DR.int (show DR X.K ι H (.int i) v from xr)
    exact .inl ⟨i, rfl, h.use g sr rfl⟩
  · rename_i k
    cases DR.bl (show DR X.K ι H (.bl k) v from xr)
    exact .inr ⟨k, rfl, h.use g sr rfl⟩
  · exact h.no.elim
theorem bi_abs : Bi1 X bAbs (fun xs H Q => ∃ i, xs = [.int i] ∧ Q (.int (if i < 0 then -i else i)) H) := fun {ι0 H0 ι H S x v Q} g sr xr h => by
  unfold bAbs at h
  split at h
  · rename_i i
    cases DR.int (show DR X.K ι H (.int i) v from xr)
    exact ⟨i, rfl, h.use g sr rfl⟩
  · exact h.no.elim
theorem bi_max2 {S : Sto} {d e : D} {v w : V} {Q : VK} (sr : SR K ι H mg S) (dv : DR K ι H d v) (dw : DR K ι H e w) (h : RQ K mg ι H (bMax2 d e S) Q) : ∃ i j, [v, w] = [V.int i, V.int j] ∧ Q (.int (if j > i then j else i)) H := by
  unfold bMax2 at h
  split at h
  · cases dv.int; cases dw.int; exact ⟨_, _, rfl, h.here sr rfl⟩
  · exact h.no.elim
theorem bi_min2 {S : Sto} {d e : D} {v w : V} {Q : VK} (sr : SR K ι H mg S) (dv : DR K ι H d v) (dw : DR K ι H e w) (h : RQ K mg ι H (bMin2 d e S) Q) : ∃ i j, [v, w] = [V.int i, V.int j] ∧ Q (.int (if j < i then j else i)) H := by
  unfold bMin2 at h
  split at h
  · cases dv.int; cases dw.int; exact ⟨_, _, rfl, h.here sr rfl⟩
  · exact h.no.elim
theorem sorted_unique {l m : List Int} (p : l.Perm m) (s1 : l.Pairwise (· ≤ ·)) (s2 : m.Pairwise (· ≤ ·)) : l = m :=
  List.Perm.eq_of_pairwise (le := (· ≤ ·)) (fun a b _ _ h1 h2 => Int.le_antisymm h1 h2) s1 s2 p
theorem bi_sorted : Bi1 X bSorted (rSorted X.K) := fun {ι0 H0 ι H S x v Q} g sr xr h => by
  unfold bSorted at h
  split at h
  · rename_i ns e
    split at h
    · rename_i hz
      cases e1 : listX x S with
      | none => rw [e1] at e; cases e
      | some ds =>
        rw [e1] at e
        obtain ⟨a, vs, rfl, qs, r⟩ := listX_of sr xr e1
        have := DRs.intsD (show Ev.intsD ds = some ns from e) r
        subst this
        refine ⟨a, ns, rfl, qs, hz, fun ns' p hp hs hn => ?_⟩
        have e2 : ns' = ns.mergeSort (fun a b => decide (a ≤ b)) := by
          refine sorted_unique (hp.trans (List.mergeSort_perm ns _).symm) hs ?_
          have := List.pairwise_mergeSort (le := fun a b : Int => decide (a ≤ b)) (fun a b c h1 h2 => by simp at *; omega) (fun a b => by simp; omega) ns
          exact this.imp fun h => by simpa using h
        rw [e2]
        exact h.newL' g sr DRs.of_ints p hn
    · exact h.no.elim
  · exact h.no.elim

/-! ### isinstance -/
theorem tyX_of {S : Sto} (sr : SR K ι H mg S) {d : D} {v : V} {T : String} (dv : DR K ι H d v) (h : tyName d S = some T) : TyX K H v (.type T) := by
  cases d with
  | non => cases h; cases dv.non; exact .base .non
  | bl b => cases h; cases dv.bl; exact .base (.bl b)
  | int b => cases h; cases dv.int; exact .base (.int b)
  | str b => cases h; cases dv.str; exact .base (.str b)
  | tup ds => cases h; obtain ⟨a, vs, rfl, q, _⟩ := dv.tup; exact .base (.tup q)
  | kt ds =>
    cases h
    obtain ⟨a, vs, rfl, q, _⟩ := dv.kt
    rcases q (fun _ => none) with (q | ⟨_, q⟩) | ⟨o, its, n, h1, h2, _⟩
    · cases q
    · cases q
    · exact .kTuple h1 h2
  | ref n =>
    obtain ⟨a, rfl, ia⟩ := dv.ref
    unfold tyName at h
    simp only at h
    split at h
    · rename_i xs e
      cases h
      obtain ⟨vs, ha, r⟩ := sr.lst e ia
      exact .base (.lst ha)
    · rename_i xs e
      cases h
      obtain ⟨vs, ha, r⟩ := sr.rol e ia
      rcases ha with ha | ⟨o, ha⟩
      · exact .base (.lst ha)
      · exact .base (.frz ha)
    · rename_i kvs e
      cases h
      obtain ⟨u, ha, c⟩ := sr.obj n _ a e ia
      rcases c with ⟨kv, rfl, _⟩ | ⟨kv, rfl, _⟩
      · exact .base (.dK ha)
      · exact .base (.dT ha)
    · cases h
theorem kitAny_of {t : String} : ∀ {Ts : List String} {b : Bool}, kitAnyB t Ts = some b → PySem.W.kitAny K (.type t) (Ts.map Value.type) = some b
  | [], b, h => by cases h; exact kitAny_nil
  | T :: Ts, b, h => by
    unfold kitAnyB at h
    split at h
    · rename_i e; cases h
      exact kitAny_cons (kit_ty e) (fun z => by cases z) fun _ => rfl
    · rename_i e
      exact kitAny_cons (b := false) (kit_ty e) (fun _ => kitAny_of h) fun z => by cases z
    · cases h
/-- a built-in type by its name -/
def TyNm (X : Cx) (x : Str) (T : String) : Prop := Gl X x ∧ X.mg x = none ∧ bootBuiltins x = some (.type T) ∧ x ≠ "__name__" ∧ (x == ("__debug__" : Str)) = false
theorem TyNm.pe {x : Str} {T : String} {pos : Pos} (h : TyNm X x T) : PE X (.Name x pos) (tC (.ty T)) := pe_bltn (v := .ty T) h.1 h.2.1 h.2.2.1 rfl h.2.2.2.1 h.2.2.2.2
theorem se_isi {a : Expr} {ma : M} {x y : Str} {T : String} {p py pos : Pos} (hT : TyNm X y T) (hg : Gl X x) (hm : X.mg x = none) (hv : bootBuiltins x = some (.builtin "isinstance")) (ha : SE X a ma) (hn : x ≠ "__name__") (hdb : (x == ("__debug__" : Str)) = false)
    (he : starEach [a, .Name y py] X.env = (false, eval a X.env) :: starEach [.Name y py] X.env) : SE X (.Call (.Name x p) [a, .Name y py] [] pos) (eIsi T ma) :=
  pe_imp (pe_callB call_isi hg hm hv (pa_cons ha (pa_cons hT.pe pa_nil) he) hn hdb he rfl) fun σ H Q ⟨ι, s, S, sr, nr, h⟩ => ⟨ι, s, S, sr, nr, bindD h fun d S1 ι1 H1 v g1 sr1 dr1 h1 => by
    obtain ⟨b, e, q⟩ := blR_use sr1 h1
    cases e1 : tyName d S1 with
    | none => rw [e1] at e; cases e
    | some t =>
      rw [e1] at e
      exact ⟨v, .ty T, .type t, .type T, b, rfl, .ty T, tyX_of sr1 dr1 e1, kit_ty e, q⟩⟩
def Tys (X : Cx) : List Expr → List String → Prop
  | [], [] => True
  | e :: es, T :: Ts => (∃ x p, e = .Name x p ∧ TyNm X x T) ∧ Tys X es Ts
  | _, _ => False
theorem tys_pa : ∀ {es : List Expr} {Ts : List String}, Tys X es Ts → PA X es (fun σ H Q => Q (Ts.map V.ty) H)
  | [], [], _ => pa_imp pa_nil fun σ H Q h => h
  | e :: es, T :: Ts, ⟨⟨x, p, he, hT⟩, h⟩ => by
    subst he
    exact pa_imp (pa_cons hT.pe (tys_pa h)) fun σ H Q h => h
  | [], _ :: _, h => h.elim
  | _ :: _, [], h => h.elim
theorem tys_cls : ∀ {Ts : List String}, Paired ClsV (Ts.map V.ty) (Ts.map Value.type)
  | [] => .nil
  | T :: Ts => .cons (.ty T) tys_cls
theorem se_isiT {a : Expr} {ma : M} {x : Str} {Ts : List String} {es : List Expr} {k : Nat} {p pt pos : Pos} (hT : Tys X es Ts) (hl : Ts.length ≤ BIG) (hg : Gl X x) (hm : X.mg x = none) (hv : bootBuiltins x = some (.builtin "isinstance")) (ha : SE X a ma) (hn : x ≠ "__name__") (hdb : (x == ("__debug__" : Str)) = false)
    (he : starEach [a, .Tuple es k pt] X.env = (false, eval a X.env) :: starEach [.Tuple es k pt] X.env) : SE X (.Call (.Name x p) [a, .Tuple es k pt] [] pos) (eIsiT Ts ma) :=
  pe_imp (pe_callB call_isiT hg hm hv (pa_cons ha (pa_cons (pe_tup (tys_pa hT)) pa_nil) he) hn hdb he rfl) fun σ H Q ⟨ι, s, S, sr, nr, h⟩ => ⟨ι, s, S, sr, nr, bindD h fun d S1 ι1 H1 v g1 sr1 dr1 h1 => by
    obtain ⟨b, e, q⟩ := blR_use sr1 h1
    cases e1 : tyName d S1 with
    | none => rw [e1] at e; cases e
    | some t =>
      rw [e1] at e
      refine ⟨by rw [List.length_map]; exact big_le hl, fun tp htp => ?_⟩
      have gt : Gro X.K ι1 H1 ι1 (upd H1 tp (.tup (Ts.map V.ty))) := Gro.laid htp (sr1.fresh htp)
      have sr2 := sr1.grow gt fun a _ u e => by rw [upd_ne (ne_of_none e htp)]; exact e
      refine ⟨v, tp, Ts.map V.ty, .type t, Ts.map Value.type, b, rfl, upd_same, tys_cls, tyX_of sr2 (dr1.mono gt.wk) e1, kitAny_of e, ?_⟩
      have h2 : RQ X.K X.mg ι1 H1 (.ok (.d (.bl b)) S1) Q := by
        have e2 : (Option.bind (tyName d S1) fun t => kitAnyB t Ts) = some b := by rw [e1]; exact e
        rw [e2] at h1
        exact h1
      exact h2.use gt sr2 rfl⟩
end
end Ev
/-! EvH: what is walked, targets, comprehensions -/
namespace Ev
open PySem L2 PyProof.Rows

/-- what is walked: the items, and what must stay while they are walked -/
structure WK where
  xs : List D
  chk : Sto → Prop
abbrev MI := Env → Sto → R WK
abbrev MG := D → Env → Sto → R Env

open Classical in
noncomputable def guardS {α : Type} (p : Prop) (r : R α) : R α := if p then r else .no
theorem guardS_pos {α : Type} {p : Prop} {r : R α} (h : p) : guardS p r = r := by unfold guardS; rw [if_pos h]
theorem guardS_true {α : Type} {r : R α} : guardS True r = r := guardS_pos True.intro
theorem guardS_neg {α : Type} {p : Prop} {r : R α} (h : ¬ p) : guardS p r = .no := by unfold guardS; rw [if_neg h]

/-- any value that is walked -/
def sigsOf (z : Str) : List D := z.cps.toList.map sigOf
def walkX (x : XR) (S : Sto) : R WK := match x with
  | .tl ds => .ok ⟨ds, fun _ => True⟩ S
  | .d (.tup ds) => .ok ⟨ds, fun _ => True⟩ S
  | .d (.kt ds) => .ok ⟨ds, fun _ => True⟩ S
  | .d (.str z) => .ok ⟨sigsOf z, fun _ => True⟩ S
  | .d (.ref n) => match listAt S n with
    | some ds => .ok ⟨ds, fun S' => listAt S' n = some ds⟩ S
    | none => .no
  | _ => .no
def iAny (m : M) : MI := fun s S => (m s S).bind fun x S1 => walkX x S1
def rangeL (a b : Int) : List D := (List.range (b - a).toNat).map fun i => .int (a + (i : Nat))
def iRange1 (m : M) : MI := fun s S => (force (m s S)).bind fun d S1 => match d with
  | .int j => if -(2 ^ 62) ≤ j ∧ j < 2 ^ 62 then .ok ⟨rangeL 0 j, fun _ => True⟩ S1 else .no
  | _ => .no
def iRange2 (m m' : M) : MI := fun s S => (force (m s S)).bind fun d S1 => (force (m' s S1)).bind fun e S2 => match d, e with
  | .int i, .int j => if -(2 ^ 62) ≤ i ∧ i < 2 ^ 62 ∧ -(2 ^ 62) ≤ j ∧ j < 2 ^ 62 then .ok ⟨rangeL i j, fun _ => True⟩ S2 else .no
  | _, _ => .no

/-! ### targets -/
def gNm (i : Nat) : MG := fun d s S => .ok (s.set i (some d)) S
def gsNil : List D → Env → Sto → R Env := fun ds s S => match ds with
  | [] => .ok s S
  | _ => .no
def gsCons (g : MG) (gs : List D → Env → Sto → R Env) : List D → Env → Sto → R Env := fun ds s S => match ds with
  | d :: r => (g d s S).bind fun s1 S1 => gs r s1 S1
  | [] => .no
/-- (a, b, ..) = a tuple or a list of n items -/
def gTp (n : Nat) (gs : List D → Env → Sto → R Env) : MG := fun d s S => match seqD d S with
  | some ds => if ds.length = n then gs ds s S else .no
  | none => .no
/-- o[i] = d -/
def setD (o i d : D) (S : Sto) : R Unit := match o with
  | .ref n => match S[n]? with
    | some (.lst xs) => match i with
      | .int k => match ixN xs.length k with
        | some j => .ok () (S.set n (.lst (xs.set j d)))
        | none => .no
      | _ => .no
    | some (.dct kvs) => match keyOf i with
      | some q => if kindOk kvs q = true ∧ kvs.length < BIG then .ok () (S.set n (.dct (Ev.putK kvs q i d))) else .no
      | none => .no
    | _ => .no
  | _ => .no
def gSb (o i : M) : MG := fun d s S => (force (o s S)).bind fun od S1 => (force (i s S1)).bind fun id S2 => (setD od id d S2).bind fun _ S3 => .ok s S3

/-! ### a comprehension -/
noncomputable def loopC (chk : Sto → Prop) (g : MG) (tt : MT) (te : M) (s0 : Env) : List D → List D → Sto → R (List D)
  | [], acc, S => guardS (chk S) (.ok acc S)
  | d :: ds, acc, S => guardS (chk S) ((g d s0 S).bind fun s1 S1 => (tt s1 S1).bind fun b S2 =>
      if b = true then (force (te s1 S2)).bind fun y S3 => if acc.length < BIG then loopC chk g tt te s0 ds (acc ++ [y]) S3 else .no
      else loopC chk g tt te s0 ds acc S2)
def wipeE (s : Env) : List Nat → Env
  | [] => s
  | v :: vs => (wipeE s vs).set v none
noncomputable def eComp (mi : MI) (g : MG) (tt : MT) (te : M) (vs : List Nat) : M := fun s S => (mi s S).bind fun w S1 => (loopC w.chk g tt te (wipeE s vs) w.xs [] S1).bind fun acc S2 => .ok (.tl acc) S2
def tYesM : MT := fun _ S => .ok true S

section
variable {K : PySem.W.Frag} {ι ι' ι0 : List Addr} {H H' H0 : Hp} {mg : Str → Option Value} {X : Cx}
/-- J walks xs, in every world that has grown from (ι, H) and in which chk holds -/
def Walks (K : PySem.W.Frag) (mg : Str → Option Value) (J : It) (w : WK) (ι : List Addr) (H : Hp) : Prop :=
  ∀ ι1 H1 S i, Gro K ι H ι1 H1 → SR K ι1 H1 mg S → w.chk S → (w.xs.length ≤ i → J.stop i H1) ∧
    ∀ d, w.xs[i]? = some d → J.go i H1 ∧ ∀ v H2, J.yld i H1 v H2 → Gro K ι1 H1 ι1 H2 ∧ SR K ι1 H2 mg S ∧ DR K ι1 H2 d v
def RI (K : PySem.W.Frag) (mg : Str → Option Value) (ι : List Addr) (H : Hp) (r : R WK) (R : It → Hp → Prop) : Prop :=
  ∃ w S1, r = .ok w S1 ∧ ∀ ι1 H1 J, Gro K ι H ι1 H1 → SR K ι1 H1 mg S1 → w.chk S1 → Walks K mg J w ι1 H1 → R J H1
def tMI (K : PySem.W.Frag) (mg : Str → Option Value) (m : MI) : TI := fun σ H R => ∃ ι s S, SR K ι H mg S ∧ NR K ι H s σ ∧ RI K mg ι H (m s S) R
abbrev SI (X : Cx) (tg iter : Expr) (m : MI) : Prop := PI X tg iter (tMI X.K X.mg m)
theorem RI.no {R : It → Hp → Prop} (h : RI K mg ι H .no R) : False := by obtain ⟨_, _, e, _⟩ := h; cases e
theorem RI.later {r : R WK} {R : It → Hp → Prop} (h : RI K mg ι H r R) (g : Gro K ι H ι' H') : RI K mg ι' H' r R := by
  obtain ⟨w, S1, e, k⟩ := h
  exact ⟨w, S1, e, fun ι1 H1 J g1 sr c w => k ι1 H1 J (g.trans g1) sr c w⟩
theorem walks_l {a : Addr} {w : WK} (h : ∀ ι1 H1 S, Gro K ι H ι1 H1 → SR K ι1 H1 mg S → w.chk S → ∃ vs, SqL K H1 a vs ∧ DRs K ι1 H1 w.xs vs) : Walks K mg (Itl K a) w ι H := fun ι1 H1 S i g sr c => by
  obtain ⟨vs, q, r⟩ := h ι1 H1 S g sr c
  refine ⟨fun hl => ⟨vs, q, by rw [r.length]; exact hl⟩, fun d e => ?_⟩
  obtain ⟨v, hv, dv⟩ := r.get e
  refine ⟨⟨vs, v, q, hv⟩, fun v' H2 hy => ?_⟩
  obtain ⟨e2, hy⟩ := hy
  subst e2
  have e3 := hy vs q
  rw [hv] at e3
  cases e3
  exact ⟨Gro.refl, sr, dv⟩
theorem walks_t {a : Addr} {w : WK} (h : ∀ ι1 H1 S, Gro K ι H ι1 H1 → SR K ι1 H1 mg S → w.chk S → ∃ vs, SqT K H1 a vs ∧ DRs K ι1 H1 w.xs vs) : Walks K mg (Itt K a) w ι H := fun ι1 H1 S i g sr c => by
  obtain ⟨vs, q, r⟩ := h ι1 H1 S g sr c
  refine ⟨fun hl => ⟨vs, q, by rw [r.length]; exact hl⟩, fun d e => ?_⟩
  obtain ⟨v, hv, dv⟩ := r.get e
  refine ⟨⟨vs, v, q, hv⟩, fun v' H2 hy => ?_⟩
  obtain ⟨e2, hy⟩ := hy
  subst e2
  have e3 := hy vs q
  rw [hv] at e3
  cases e3
  exact ⟨Gro.refl, sr, dv⟩
theorem walks_s {z : Str} : Walks K mg (Its z) ⟨sigsOf z, fun _ => True⟩ ι H := fun ι1 H1 S i g sr c => by
  have hl : (sigsOf z).length = z.cps.size := by unfold sigsOf; rw [List.length_map, Array.length_toList]
  refine ⟨fun h => show z.cps.size ≤ i from by rw [← hl]; exact h, fun d e => ?_⟩
  have hi := (List.getElem?_eq_some_iff.mp e).1
  refine ⟨show i < z.cps.size from by rw [← hl]; exact hi, fun v H2 hy => ?_⟩
  obtain ⟨e2, c, hc, ev⟩ := hy
  subst e2; subst ev
  have e3 : (sigsOf z)[i]? = some (sigOf c) := by
    unfold sigsOf
    rw [List.getElem?_map, Array.getElem?_toList, hc]; rfl
  rw [show (⟨sigsOf z, fun _ => True⟩ : WK).xs = sigsOf z from rfl] at e
  rw [e3] at e
  cases e
  exact ⟨Gro.refl, sr, rfl⟩
theorem walks_r {lo : Int} {n : Nat} : Walks K mg (Itr lo n) ⟨(List.range n).map fun i => .int (lo + (i : Nat)), fun _ => True⟩ ι H := fun ι1 H1 S i g sr c => by
  refine ⟨fun h => show n ≤ i from by simpa using h, fun d e => ?_⟩
  have hi := (List.getElem?_eq_some_iff.mp e).1
  have hi2 : i < n := by simpa using hi
  refine ⟨hi2, fun v H2 hy => ?_⟩
  obtain ⟨e2, ev⟩ := hy
  subst e2; subst ev
  have e3 : ((List.range n).map fun i : Nat => D.int (lo + (i : Nat)))[i]? = some (.int (lo + i)) := by
    rw [List.getElem?_map, List.getElem?_range hi2]; rfl
  rw [show (⟨(List.range n).map fun i => .int (lo + (i : Nat)), fun _ => True⟩ : WK).xs = (List.range n).map fun i : Nat => D.int (lo + (i : Nat)) from rfl] at e
  rw [e3] at e
  cases e
  exact ⟨Gro.refl, sr, rfl⟩
theorem si_any {tg e : Expr} {m : M} (he : SE X e m) : SI X tg e (iAny m) := by
  refine ⟨fun pins s σ H R I h => ?_⟩
  obtain ⟨ι, st, S, sr, nr, h⟩ := h
  have step : RQ X.K X.mg ι H (m st S) (fun x H1 => (∃ a, x = .ref a ∧ (∃ xs, SqL X.K H1 a xs) ∧ R (Itl X.K a) H1) ∨ (∃ a, x = .ref a ∧ (∃ xs, SqT X.K H1 a xs) ∧ R (Itt X.K a) H1) ∨ ∃ z, x = .str z ∧ R (Its z) H1) := by
    unfold iAny at h
    cases q : m st S with
    | no => rw [q] at h; exact h.no.elim
    | ok x S1 =>
      rw [q] at h
      refine RQ.ok fun ι1 H1 v g1 sr1 xr => ?_
      have h1 : RI X.K X.mg ι H (walkX x S1) R := h
      cases x with
      | tl ds =>
        obtain ⟨w, S2, e, k⟩ := h1
        cases e
        obtain ⟨a, vs, rfl, h0, ha, hn, r⟩ := xr
        exact .inl ⟨a, rfl, ⟨vs, SqL.of ha⟩, k ι1 H1 _ g1 sr1 trivial (walks_l fun ι2 H2 S g2 sr2 _ => ⟨vs, SqL.of (g2.keep a _ ha hn).1, r.mono g2.wk⟩)⟩
      | d d =>
        cases d with
        | tup ds =>
          obtain ⟨w, S2, e, k⟩ := h1
          cases e
          obtain ⟨a, vs, rfl, ha, r⟩ := DR.tup (show DR X.K ι1 H1 (.tup ds) v from xr)
          exact .inr (.inl ⟨a, rfl, ⟨vs, SqT.of ha⟩, k ι1 H1 _ g1 sr1 trivial (walks_t fun ι2 H2 S g2 sr2 _ => ⟨vs, SqT.of (g2.tup a _ ha), r.mono g2.wk⟩)⟩)
        | kt ds =>
          obtain ⟨w, S2, e, k⟩ := h1
          cases e
          obtain ⟨a, vs, rfl, ha, r⟩ := DR.kt (show DR X.K ι1 H1 (.kt ds) v from xr)
          exact .inr (.inl ⟨a, rfl, ⟨vs, ha H1⟩, k ι1 H1 _ g1 sr1 trivial (walks_t fun ι2 H2 S g2 sr2 _ => ⟨vs, ha H2, r.mono g2.wk⟩)⟩)
        | str z =>
          obtain ⟨w, S2, e, k⟩ := h1
          cases e
          cases DR.str (show DR X.K ι1 H1 (.str z) v from xr)
          exact .inr (.inr ⟨z, rfl, k ι1 H1 _ g1 sr1 trivial walks_s⟩)
        | ref n =>
          have h2 : RI X.K X.mg ι H (match listAt S1 n with | some ds => .ok ⟨ds, fun S' => listAt S' n = some ds⟩ S1 | none => .no) R := h1
          split at h2
          · rename_i ds e
            obtain ⟨w, S2, e', k⟩ := h2
            cases e'
            obtain ⟨a, rfl, ia⟩ := DR.ref (show DR X.K ι1 H1 (.ref n) v from xr)
            obtain ⟨vs, qs, r⟩ := sr1.list e ia
            exact .inl ⟨a, rfl, ⟨vs, qs⟩, k ι1 H1 _ g1 sr1 e (walks_l fun ι2 H2 S g2 sr2 c => sr2.list c (g2.wk.get ia))⟩
          · exact h2.no.elim
        | _ => exact (RI.no h1).elim
  refine thn (he.run pins s σ H _ I ⟨ι, st, S, sr, nr, step⟩) fun v s1 ⟨x, H1, I1, r1, q1⟩ => ?_
  rcases q1 with ⟨a, ex, ⟨xs, hq⟩, q⟩ | ⟨a, ex, ⟨xs, hq⟩, q⟩ | ⟨z, ex, q⟩
  · subst ex
    cases r1
    obtain ⟨its, rv, p, hz⟩ := I1.list hq
    refine wpAny_pyIter_list p.isList ?_
    refine ⟨s1.heap.objs.size, [s1.heap.objs.size], _, _, H1, rfl, I1.kept (t' := s1.toks) fun b o e => Heap.get?_push_of_some _ e, turn_list a _, ⟨_, Heap.get?_push_size _ rfl, rfl, rfl⟩, fun b hb => ?_, q⟩
    have e : b = s1.heap.objs.size := by simpa using hb
    subst e
    exact I1.fpOk (Nat.le_refl _) (I1.hok.fresh (Nat.le_refl _))
  · subst ex
    cases r1
    obtain ⟨its, rv, p, hz⟩ := I1.tuple hq
    refine wpAny_pyIter_tuple (show s1.heap.IsTuple a its.toArray from p) ?_
    refine ⟨s1.heap.objs.size, [s1.heap.objs.size], _, _, H1, rfl, I1.kept (t' := s1.toks) fun b o e => Heap.get?_push_of_some _ e, turn_tuple a _, ⟨_, Heap.get?_push_size _ rfl, rfl, rfl⟩, fun b hb => ?_, q⟩
    have e : b = s1.heap.objs.size := by simpa using hb
    subst e
    exact I1.fpOk (Nat.le_refl _) (I1.hok.fresh (Nat.le_refl _))
  · subst ex
    obtain ⟨t, rfl⟩ := r1
    cases ha : z.cps.all (· < 128)
    · exact wpAny_pyIter_wide ha (pi_one (tk := s1.toks) I1 _ (turn_str _ z t "str_iterator" (.inr rfl)) ⟨_, Heap.get?_push_size _ rfl, rfl, rfl⟩ q)
    · exact wpAny_pyIter_ascii ha (pi_one (tk := s1.toks) I1 _ (turn_str _ z t "str_ascii_iterator" (.inl rfl)) ⟨_, Heap.get?_push_size _ rfl, rfl, rfl⟩ q)
theorem pi_imp {tg e : Expr} {t t' : TI} (h : PI X tg e t) (k : ∀ σ H R, t' σ H R → t σ H R) : PI X tg e t' := ⟨fun pins s σ H R I q => h.run pins s σ H R I (k _ _ _ q)⟩
theorem rangeL0 (j : Int) : rangeL 0 j = (List.range j.toNat).map fun i => .int (0 + (i : Nat)) := by unfold rangeL; rw [Int.sub_zero]
theorem si_range1 {tg a : Expr} {m : M} {p pos : Pos} (hg : Gl X "range") (hm : X.mg "range" = none) (ha : SE X a m) (hs : starEach [a] X.env = (false, eval a X.env) :: starEach [] X.env) : SI X tg (.Call (.Name "range" p) [a] [] pos) (iRange1 m) :=
  pi_imp (pi_range1 hg hm (pa_cons ha pa_nil hs) hs) fun σ H R ⟨ι, s, S, sr, nr, h⟩ =>
    ⟨ι, s, S, sr, nr, bindDG (W := fun ι H r => RI X.K X.mg ι H r R) (fun _ _ => RI.no) (fun _ _ _ _ _ h g => h.later g) h fun d S1 ι1 H1 v g1 sr1 dr1 h1 => by
      split at h1
      · rename_i j
        split at h1
        · rename_i hz
          cases dr1.int
          obtain ⟨w, S2, e, k⟩ := h1
          cases e
          refine ⟨j, rfl, hz.1, hz.2, k ι1 H1 _ Gro.refl sr1 trivial ?_⟩
          rw [rangeL0]
          exact walks_r
        · exact h1.no.elim
      · exact h1.no.elim⟩
theorem si_range2 {tg a b : Expr} {m m' : M} {p pos : Pos} (hg : Gl X "range") (hm : X.mg "range" = none) (ha : SE X a m) (hb : SE X b m') (hs : starEach [a, b] X.env = (false, eval a X.env) :: starEach [b] X.env) (hs2 : starEach [b] X.env = (false, eval b X.env) :: starEach [] X.env) :
    SI X tg (.Call (.Name "range" p) [a, b] [] pos) (iRange2 m m') :=
  pi_imp (pi_range2 hg hm (pa_cons ha (pa_cons hb pa_nil hs2) hs) (by rw [hs, hs2]; rfl) hs2) fun σ H R ⟨ι, s, S, sr, nr, h⟩ =>
    ⟨ι, s, S, sr, nr, bindDG (W := fun ι H r => RI X.K X.mg ι H r R) (fun _ _ => RI.no) (fun _ _ _ _ _ h g => h.later g) h fun d S1 ι1 H1 v g1 sr1 dr1 h1 =>
      ⟨ι1, s, S1, sr1, nr.mono g1.wk, bindDG (W := fun ι H r => RI X.K X.mg ι H r R) (fun _ _ => RI.no) (fun _ _ _ _ _ h g => h.later g) h1 fun e S2 ι2 H2 w g2 sr2 dr2 h2 => by
        split at h2
        · rename_i i j
          split at h2
          · rename_i hz
            cases (dr1.mono g2.wk).int
            cases dr2.int
            obtain ⟨w, S3, e, k⟩ := h2
            cases e
            exact ⟨i, j, rfl, hz, k ι2 H2 _ Gro.refl sr2 trivial walks_r⟩
          · exact h2.no.elim
        · exact h2.no.elim⟩⟩

/-! ### targets -/
/-- ws: the slots that are written -/
def RG (K : PySem.W.Frag) (mg : Str → Option Value) (ws : List Nat) (ι : List Addr) (H : Hp) (σ : L2.St) (r : R Env) (Q : L2.St → Hp → Prop) : Prop :=
  ∃ s' S', r = .ok s' S' ∧ ∀ ι' H' σ', Gro K ι H ι' H' → SR K ι' H' mg S' → NR K ι' H' s' σ' → σ'.length = σ.length → (∀ j : Nat, j ∉ ws → σ'[j]? = σ[j]?) → Q σ' H'
def tMG (K : PySem.W.Frag) (mg : Str → Option Value) (ws : List Nat) (g : MG) : TG := fun v σ H Q => ∃ ι s S d, SR K ι H mg S ∧ NR K ι H s σ ∧ DR K ι H d v ∧ RG K mg ws ι H σ (g d s S) Q
def tMGs (K : PySem.W.Frag) (mg : Str → Option Value) (ws : List Nat) (g : List D → Env → Sto → R Env) : TGs := fun vs σ H Q => ∃ ι s S ds, SR K ι H mg S ∧ NR K ι H s σ ∧ DRs K ι H ds vs ∧ RG K mg ws ι H σ (g ds s S) Q
abbrev SG (X : Cx) (tg : Expr) (ws : List Nat) (g : MG) : Prop := PG X tg (tMG X.K X.mg ws g)
abbrev SGs (X : Cx) (tg : List Expr) (ws : List Nat) (g : List D → Env → Sto → R Env) : Prop := PGs X tg (tMGs X.K X.mg ws g)
theorem pg_imp {tg : Expr} {t t' : TG} (h : PG X tg t) (k : ∀ v σ H R, t' v σ H R → t v σ H R) : PG X tg t' := ⟨fun pins s σ H v u Q I r q => h.run pins s σ H v u Q I r (k _ _ _ _ q)⟩
theorem pgs_imp {tg : List Expr} {t t' : TGs} (h : PGs X tg t) (k : ∀ v σ H R, t' v σ H R → t v σ H R) : PGs X tg t' := ⟨fun pins s σ H v u Q I r q => h.run pins s σ H v u Q I r (k _ _ _ _ q)⟩
theorem NR.set {s : Env} {σ : L2.St} (h : NR K ι H s σ) (i : Nat) {d : D} {v : V} (r : DR K ι H d v) : NR K ι H (s.set i (some d)) (σ.set i (some v)) := by
  refine ⟨by rw [List.length_set, List.length_set]; exact h.1, fun j e he => ?_⟩
  by_cases hj : j = i
  · subst hj
    have hl := (List.getElem?_eq_some_iff.mp he).1
    rw [List.length_set] at hl
    rw [List.getElem?_set_self hl] at he
    cases he
    exact ⟨v, by rw [List.getElem?_set_self (by rw [← h.1]; exact hl)], r⟩
  · rw [List.getElem?_set_ne (Ne.symm hj)] at he
    obtain ⟨w, h1, h2⟩ := h.2 j e he
    exact ⟨w, by rw [List.getElem?_set_ne (Ne.symm hj)]; exact h1, h2⟩
theorem sg_name {i : Nat} {x : Str} {pos : Pos} (hN : X.N.Nodup) (hi : X.N[i]? = some x) (hx : Loc X.env.scope x) (hf : X.fn x = true ∨ X.env.scope.names.lookup x = some .local) : SG X (.Name x pos) [i] (gNm i) :=
  pg_imp (pg_name hN hi hx hf) fun v σ H Q ⟨ι, s, S, d, sr, nr, dr, h⟩ => by
    obtain ⟨s', S', e, k⟩ := h
    cases e
    exact k ι H _ Gro.refl sr (nr.set i dr) (List.length_set ..) fun j hj => by rw [List.getElem?_set_ne (by intro z; exact hj (by simp [z]))]
theorem sgs_nil : SGs X [] [] gsNil := pgs_imp pgs_nil fun vs σ H Q ⟨ι, s, S, ds, sr, nr, dr, h⟩ => by
  obtain ⟨s', S', e, k⟩ := h
  cases ds with
  | nil => cases e; exact ⟨DRs.nil_iff.mp dr, k ι H σ Gro.refl sr nr rfl fun _ _ => rfl⟩
  | cons d ds => cases e
theorem sgs_cons {e : Expr} {es : List Expr} {w1 w2 : List Nat} {g : MG} {gs : List D → Env → Sto → R Env} (h1 : SG X e w1 g) (h2 : SGs X es w2 gs) (hs : (assignEach (e :: es) X.env).map (·.2) = assign e X.env :: (assignEach es X.env).map (·.2)) : SGs X (e :: es) (w1 ++ w2) (gsCons g gs) :=
  pgs_imp (pgs_cons h1 h2 hs) fun vs σ H Q ⟨ι, s, S, ds, sr, nr, dr, h⟩ => by
    cases ds with
    | nil => obtain ⟨s', S', e, k⟩ := h; cases e
    | cons d ds =>
      obtain ⟨w, ws, rfl, q, r⟩ := DRs.cons_iff.mp dr
      obtain ⟨s', S', e, k⟩ := h
      have e' : (g d s S).bind (fun s1 S1 => gs ds s1 S1) = .ok s' S' := e
      cases hg : g d s S with
      | no => rw [hg] at e'; cases e'
      | ok s1 S1 =>
        rw [hg] at e'
        refine ⟨w, ws, rfl, ι, s, S, d, sr, nr, q, s1, S1, hg, fun ι1 H1 σ1 g1 sr1 nr1 l1 f1 => ?_⟩
        refine ⟨ι1, s1, S1, ds, sr1, nr1, r.mono g1.wk, s', S', e', fun ι2 H2 σ2 g2 sr2 nr2 l2 f2 => ?_⟩
        exact k ι2 H2 σ2 (g1.trans g2) sr2 nr2 (l2.trans l1) fun j hj => (f2 j fun z => hj (List.mem_append_right _ z)).trans (f1 j fun z => hj (List.mem_append_left _ z))
theorem pg_or {tg : Expr} {t t' : TG} (h : PG X tg t) (h' : PG X tg t') : PG X tg (fun v σ H Q => t v σ H Q ∨ t' v σ H Q) := ⟨fun pins s σ H v u Q I r q => by
  rcases q with q | q
  · exact h.run pins s σ H v u Q I r q
  · exact h'.run pins s σ H v u Q I r q⟩
theorem sg_tup {es : List Expr} {k : Nat} {pos : Pos} {n : Nat} {ws : List Nat} {gs : List D → Env → Sto → R Env} (hc : X.calm = true) (h : SGs X es ws gs) (hn : (assignEach es X.env).length = n) (hst : (assignEach es X.env).findIdx? (·.1) = none) : SG X (.Tuple es k pos) ws (gTp n gs) :=
  pg_imp (pg_or (pg_tup hc h hn hst) (pg_unl hc h hn hst)) fun v σ H Q ⟨ι, s, S, d, sr, nr, dr, h⟩ => by
    unfold gTp at h
    split at h
    · rename_i ds e
      split at h
      · rename_i hl
        obtain ⟨a, vs, rfl, q, r⟩ := sr.seq dr e
        rcases q with q | q
        · exact .inr ⟨a, vs, rfl, q, by rw [r.length]; exact hl, ι, s, S, ds, sr, nr, r, h⟩
        · exact .inl ⟨a, vs, rfl, q, by rw [r.length]; exact hl, ι, s, S, ds, sr, nr, r, h⟩
      · obtain ⟨s', S', e, k⟩ := h; cases e
    · obtain ⟨s', S', e, k⟩ := h; cases e
end
end Ev
/-! EvI: comprehensions, statements -/
namespace Ev
open PySem L2 PyProof.Rows

/-- how a statement ends -/
inductive Fl where
  | nx (s : Env) | ret (x : XR) | bk (s : Env) | ct (s : Env)
abbrev MS := Env → Sto → R Fl
def sNext : MS := fun s S => .ok (.nx s) S
def sSeq (a b : MS) : MS := fun s S => (a s S).bind fun f S1 => match f with
  | .nx s1 => b s1 S1
  | f => .ok f S1
def sExpr (a : M) : MS := fun s S => (a s S).bind fun _ S1 => .ok (.nx s) S1
def sRet (a : M) : MS := fun s S => (a s S).bind fun x S1 => .ok (.ret x) S1
def sRetN : MS := fun _ S => .ok (.ret (.d .non)) S
def sIf (t : MT) (a b : MS) : MS := fun s S => (t s S).bind fun c S1 => if c = true then a s S1 else b s S1
def sAsg (a : M) (g : MG) : MS := fun s S => (force (a s S)).bind fun d S1 => (g d s S1).bind fun s1 S2 => .ok (.nx s1) S2
def sBreak : MS := fun s S => .ok (.bk s) S
def sCont : MS := fun s S => .ok (.ct s) S
def sNever : MS := fun _ _ => .no
/-- a, b = x, y: stored behind one another -/
def sPar (i j : Nat) (as : MA) : MS := fun s S => (as s S).bind fun ds S1 => match ds with
  | [d, e] => .ok (.nx ((s.set i (some d)).set j (some e))) S1
  | _ => .no
def sPar3 (i j l : Nat) (as : MA) : MS := fun s S => (as s S).bind fun ds S1 => match ds with
  | [d, e, f] => .ok (.nx (((s.set i (some d)).set j (some e)).set l (some f))) S1
  | _ => .no
/-- name op= e for ints -/
def sAug (i : Nat) (f : D → D → Sto → R XR) (a : M) : MS := fun s S => match s[i]? with
  | some (some d) => (force (a s S)).bind fun e S1 => (force (f d e S1)).bind fun z S2 => .ok (.nx (s.set i (some z))) S2
  | _ => .no
noncomputable def loopF (chk : Sto → Prop) (body : D → MS) : List D → MS
  | [], s, S => guardS (chk S) (.ok (.nx s) S)
  | d :: ds, s, S => guardS (chk S) ((body d s S).bind fun f S1 => match f with
    | .nx s1 => loopF chk body ds s1 S1
    | .ct s1 => loopF chk body ds s1 S1
    | .bk s1 => .ok (.nx s1) S1
    | .ret x => .ok (.ret x) S1)
noncomputable def sFor (mi : MI) (g : MG) (b : MS) : MS := fun s S => (mi s S).bind fun w S1 => loopF w.chk (fun d s S => (g d s S).bind fun s1 S1 => b s1 S1) w.xs s S1
def loopW (t : MT) (b : MS) : Nat → MS
  | 0, _, _ => .no
  | n + 1, s, S => (t s S).bind fun c S1 => if c = true then (b s S1).bind fun f S2 => match f with
      | .nx s1 => loopW t b n s1 S2
      | .ct s1 => loopW t b n s1 S2
      | .bk s1 => .ok (.nx s1) S2
      | .ret x => .ok (.ret x) S2
    else .ok (.nx s) S1
/-- how many turns a while may take -/
abbrev TURNS : Nat := 1000000
def sWhile (t : MT) (b : MS) : MS := loopW t b TURNS

section
variable {K : PySem.W.Frag} {ι ι' ι0 : List Addr} {H H' H0 : Hp} {mg : Str → Option Value} {X : Cx}
/-- what a statement's outcome asks -/
def RS (K : PySem.W.Frag) (mg : Str → Option Value) (ι : List Addr) (H : Hp) (r : R Fl) (D : Ends) : Prop :=
  ∃ f S', r = .ok f S' ∧ match f with
    | .nx s' => ∀ ι' H' σ', Gro K ι H ι' H' → SR K ι' H' mg S' → NR K ι' H' s' σ' → D.nx σ' H'
    | .ret x => ∀ ι' H' v, Gro K ι H ι' H' → SR K ι' H' mg S' → XRel K ι' H' H x v → D.rt v H'
    | .bk s' => ∀ ι' H' σ', Gro K ι H ι' H' → SR K ι' H' mg S' → NR K ι' H' s' σ' → D.bk σ' H'
    | .ct s' => ∀ ι' H' σ', Gro K ι H ι' H' → SR K ι' H' mg S' → NR K ι' H' s' σ' → D.ct σ' H'
def tMS (K : PySem.W.Frag) (mg : Str → Option Value) (m : MS) : TS := fun D σ H => ∃ ι s S, SR K ι H mg S ∧ NR K ι H s σ ∧ RS K mg ι H (m s S) D
abbrev SS (X : Cx) (st : Stmt) (m : MS) : Prop := PS X st (tMS X.K X.mg m)
abbrev SSs (X : Cx) (st : List Stmt) (m : MS) : Prop := PSs X st (tMS X.K X.mg m)
theorem RS.no {D : Ends} (h : RS K mg ι H .no D) : False := by obtain ⟨_, _, e, _⟩ := h; cases e
theorem RS.later {r : R Fl} {D : Ends} (h : RS K mg ι H r D) (g : Gro K ι H ι' H') : RS K mg ι' H' r D := by
  obtain ⟨f, S', e, k⟩ := h
  refine ⟨f, S', e, ?_⟩
  cases f with
  | nx s' => exact fun ι2 H2 σ' g2 sr nr => k ι2 H2 σ' (g.trans g2) sr nr
  | ret x => exact fun ι2 H2 v g2 sr xr => k ι2 H2 v (g.trans g2) sr (xr.back (H0 := H) g)
  | bk s' => exact fun ι2 H2 σ' g2 sr nr => k ι2 H2 σ' (g.trans g2) sr nr
  | ct s' => exact fun ι2 H2 σ' g2 sr nr => k ι2 H2 σ' (g.trans g2) sr nr
theorem RS.nx {s : Env} {S : Sto} {D : Ends} {σ : L2.St} (h : RS K mg ι H (.ok (.nx s) S) D) (sr : SR K ι H mg S) (nr : NR K ι H s σ) : D.nx σ H := by
  obtain ⟨f, S', e, k⟩ := h
  cases e
  exact k ι H σ Gro.refl sr nr
theorem ps_imp {st : Stmt} {t t' : TS} (h : PS X st t) (k : ∀ D σ H, t' D σ H → t D σ H) : PS X st t' := ⟨fun pins s σ H D I q => h.run pins s σ H D I (k _ _ _ q)⟩
theorem pss_imp {st : List Stmt} {t t' : TS} (h : PSs X st t) (k : ∀ D σ H, t' D σ H → t D σ H) : PSs X st t' := ⟨fun pins s σ H D I q => h.run pins s σ H D I (k _ _ _ q)⟩
theorem sss_nil : SSs X [] sNext := pss_imp pss_nil fun D σ H ⟨ι, s, S, sr, nr, h⟩ => RS.nx h sr nr
theorem sss_cons {st : Stmt} {rest : List Stmt} {a b : MS} (h1 : SS X st a) (h2 : SSs X rest b) : SSs X (st :: rest) (sSeq a b) := pss_imp (pss_cons h1 h2) fun D σ H ⟨ι, s, S, sr, nr, h⟩ => by
  refine ⟨ι, s, S, sr, nr, ?_⟩
  have h' : RS X.K X.mg ι H ((a s S).bind fun f S1 => match f with | .nx s1 => b s1 S1 | f => .ok f S1) D := h
  cases q : a s S with
  | no => rw [q] at h'; exact h'.no.elim
  | ok f S1 =>
    rw [q] at h'
    cases f with
    | nx s1 => exact ⟨_, S1, rfl, fun ι1 H1 σ1 g1 sr1 nr1 => ⟨ι1, s1, S1, sr1, nr1, RS.later (show RS X.K X.mg ι H (b s1 S1) D from h') g1⟩⟩
    | ret x =>
      obtain ⟨f, S2, e, k⟩ := h'
      cases e
      exact ⟨_, S1, rfl, k⟩
    | bk s1 =>
      obtain ⟨f, S2, e, k⟩ := h'
      cases e
      exact ⟨_, S1, rfl, k⟩
    | ct s1 =>
      obtain ⟨f, S2, e, k⟩ := h'
      cases e
      exact ⟨_, S1, rfl, k⟩
/-- a value first, then a statement's outcome -/
theorem bindDS {r : R XR} {k : D → Sto → R Fl} {D0 : Ends} {Q1 : VK} (h : RS K mg ι H ((force r).bind k) D0)
    (f : ∀ d S1 ι1 H1 v, Gro K ι H ι1 H1 → SR K ι1 H1 mg S1 → DR K ι1 H1 d v → RS K mg ι1 H1 (k d S1) D0 → Q1 v H1) : RQ K mg ι H r Q1 :=
  bindDG (W := fun ι H r => RS K mg ι H r D0) (fun _ _ => RS.no) (fun _ _ _ _ _ h g => h.later g) h f
theorem bindTS {r : R Bool} {k : Bool → Sto → R Fl} {D0 : Ends} {Q1 : Bool → Hp → Prop} (h : RS K mg ι H (r.bind k) D0)
    (f : ∀ b S1 ι1 H1, Gro K ι H ι1 H1 → SR K ι1 H1 mg S1 → RS K mg ι1 H1 (k b S1) D0 → Q1 b H1) : RT K mg ι H r Q1 :=
  bindTG (W := fun ι H r => RS K mg ι H r D0) (fun _ _ => RS.no) (fun _ _ _ _ _ h g => h.later g) h f
theorem bindAS {r : R (List D)} {k : List D → Sto → R Fl} {D0 : Ends} {Q1 : List V → Hp → Prop} (h : RS K mg ι H (r.bind k) D0)
    (f : ∀ ds S1 ι1 H1 vs, Gro K ι H ι1 H1 → SR K ι1 H1 mg S1 → DRs K ι1 H1 ds vs → RS K mg ι1 H1 (k ds S1) D0 → Q1 vs H1) : RA K mg ι H r Q1 :=
  bindAG (W := fun ι H r => RS K mg ι H r D0) (fun _ _ => RS.no) (fun _ _ _ _ _ h g => h.later g) h f
theorem ss_expr {e : Expr} {pos : Pos} {m : M} (he : SE X e m) (hs : swapsWith e none pos.line X.env = pure false) : SS X (.Expr e pos) (sExpr m) := ps_imp (ps_expr he hs) fun D σ H ⟨ι, s, S, sr, nr, h⟩ => by
  refine ⟨ι, s, S, sr, nr, ?_⟩
  have h' : RS X.K X.mg ι H ((m s S).bind fun _ S1 => .ok (.nx s) S1) D := h
  cases q : m s S with
  | no => rw [q] at h'; exact h'.no.elim
  | ok x S1 =>
    rw [q] at h'
    obtain ⟨f, S2, e, k⟩ := h'
    cases e
    exact RQ.ok fun ι1 H1 v g1 sr1 xr => k ι1 H1 σ g1 sr1 (nr.mono g1.wk)
theorem ss_doc {x j pos pos'} : SS X (.Expr (.Constant (.str x) j pos) pos') sNext := ps_imp ps_doc fun D σ H ⟨ι, s, S, sr, nr, h⟩ => RS.nx h sr nr
theorem ss_pass {pos} : SS X (.Pass pos) sNext := ps_imp ps_pass fun D σ H ⟨ι, s, S, sr, nr, h⟩ => RS.nx h sr nr
theorem ss_break {pos} : SS X (.Break pos) sBreak := ps_imp ps_break fun D σ H ⟨ι, s, S, sr, nr, h⟩ => by
  obtain ⟨f, S2, e, k⟩ := h
  cases e
  exact k ι H σ Gro.refl sr nr
theorem ss_cont {pos} : SS X (.Continue pos) sCont := ps_imp ps_continue fun D σ H ⟨ι, s, S, sr, nr, h⟩ => by
  obtain ⟨f, S2, e, k⟩ := h
  cases e
  exact k ι H σ Gro.refl sr nr
theorem ss_never {st : Stmt} : SS X st sNever := ps_imp ps_never fun D σ H ⟨ι, s, S, sr, nr, h⟩ => h.no
theorem ss_ret {e : Expr} {pos : Pos} {m : M} (he : SE X e m) : SS X (.Return (some e) pos) (sRet m) := ps_imp (ps_ret he) fun D σ H ⟨ι, s, S, sr, nr, h⟩ => by
  refine ⟨ι, s, S, sr, nr, ?_⟩
  have h' : RS X.K X.mg ι H ((m s S).bind fun x S1 => .ok (.ret x) S1) D := h
  cases q : m s S with
  | no => rw [q] at h'; exact h'.no.elim
  | ok x S1 =>
    rw [q] at h'
    obtain ⟨f, S2, e, k⟩ := h'
    cases e
    exact RQ.ok k
theorem ss_retN {pos : Pos} : SS X (.Return none pos) sRetN := ps_imp ps_retN fun D σ H ⟨ι, s, S, sr, nr, h⟩ => by
  obtain ⟨f, S2, e, k⟩ := h
  cases e
  exact k ι H .non Gro.refl sr rfl
theorem ss_if {c : Expr} {a b : List Stmt} {pos : Pos} {mc : MT} {ma mb : MS} (hc : STe X c mc) (ha : SSs X a ma) (hb : SSs X b mb) : SS X (.If c a b pos) (sIf mc ma mb) := ps_imp (ps_if hc ha hb) fun D σ H ⟨ι, s, S, sr, nr, h⟩ =>
  ⟨ι, s, S, sr, nr, bindTS h fun b S1 ι1 H1 g1 sr1 h1 => by
    cases b with
    | true => rw [if_pos rfl] at h1 ⊢; exact ⟨ι1, s, S1, sr1, nr.mono g1.wk, h1⟩
    | false => rw [if_neg Bool.false_ne_true] at h1 ⊢; exact ⟨ι1, s, S1, sr1, nr.mono g1.wk, h1⟩⟩
/-- a target that is assigned -/
theorem asg_tM {m : M} {g : MG} {t : TG} (k : ∀ v σ H Q, tMG X.K X.mg ws g v σ H Q → t v σ H Q) : ∀ D σ H, tMS X.K X.mg (sAsg m g) D σ H → tAsg (tM X.K X.mg m) t D σ H := fun D σ H ⟨ι, s, S, sr, nr, h⟩ =>
  ⟨ι, s, S, sr, nr, bindDS h fun d S1 ι1 H1 v g1 sr1 dr1 h1 => k v σ H1 _ ⟨ι1, s, S1, d, sr1, nr.mono g1.wk, dr1, by
    have h' : RS X.K X.mg ι1 H1 ((g d s S1).bind fun s1 S2 => .ok (.nx s1) S2) D := h1
    cases q : g d s S1 with
    | no => rw [q] at h'; exact h'.no.elim
    | ok s1 S2 =>
      rw [q] at h'
      obtain ⟨f, S3, e, k⟩ := h'
      cases e
      exact ⟨s1, S2, rfl, fun ι2 H2 σ2 g2 sr2 nr2 _ _ => k ι2 H2 σ2 g2 sr2 nr2⟩⟩⟩
theorem ss_asg {tg e : Expr} {pos : Pos} {m : M} {g : MG} {ws : List Nat} (he : SE X e m) (hg : SG X tg ws g) (hs : swapsWithSole [tg] e pos.line X.env = pure false) (hw : swappedStores [tg] e X.env = pure none)
    (h1 : (assignEach [tg] X.env).map (·.2) = [assign tg X.env]) : SS X (.Assign [tg] e pos) (sAsg m g) := ps_imp (ps_asg he hg hs hw h1) (asg_tM (ws := ws) fun _ _ _ _ h => h)
theorem ss_set {i : Nat} {x : Str} {e : Expr} {pos pos' : Pos} {m : M} (hN : X.N.Nodup) (hi : X.N[i]? = some x) (hx : Loc X.env.scope x) (he : SE X e m) (hs : swapsWith e (some (.Name x pos')) pos.line X.env = pure false) (hf : X.fn x = true ∨ X.env.scope.names.lookup x = some .local) :
    SS X (.Assign [.Name x pos'] e pos) (sAsg m (gNm i)) := ps_imp (ps_set hN hi hx he hs hf) (asg_tM (ws := [i]) fun v σ H Q ⟨ι, s, S, d, sr, nr, dr, h⟩ => by
    obtain ⟨s', S', e, k⟩ := h
    cases e
    exact k ι H _ Gro.refl sr (nr.set i dr) (List.length_set ..) fun j hj => by rw [List.getElem?_set_ne (by intro z; exact hj (by simp [z]))])
theorem ss_par {i j : Nat} {x y : Str} {a b : Expr} {ma : MA} {px py pt pos : Pos} {kt k2 pt2} (hc : X.calm = true) (hN : X.N.Nodup) (hi : X.N[i]? = some x) (hj : X.N[j]? = some y) (hij : i ≠ j)
    (hx : X.env.scope.names.lookup x = some .local) (hy : X.env.scope.names.lookup y = some .local) (ha : SA X [a, b] ma)
    (hw : swappedStores [.Tuple [.Name x px, .Name y py] kt pt] (.Tuple [a, b] k2 pt2) X.env = pure (some [x, y]))
    (hs : swapsWithSole [.Tuple [.Name x px, .Name y py] kt pt] (.Tuple [a, b] k2 pt2) pos.line X.env = pure false) :
    SS X (.Assign [.Tuple [.Name x px, .Name y py] kt pt] (.Tuple [a, b] k2 pt2) pos) (sPar i j ma) := ps_imp (ps_par hc hN hi hj hij hx hy ha hw hs) fun D σ H ⟨ι, s, S, sr, nr, h⟩ =>
  ⟨ι, s, S, sr, nr, bindAS h fun ds S1 ι1 H1 vs g1 sr1 dr1 h1 => by
    split at h1
    · obtain ⟨v, vs, rfl, q1, r⟩ := DRs.cons_iff.mp dr1
      obtain ⟨w, ws, rfl, q2, r⟩ := DRs.cons_iff.mp r
      cases DRs.nil_iff.mp r
      exact ⟨v, w, rfl, h1.nx sr1 (((nr.mono g1.wk).set i q1).set j q2)⟩
    · exact h1.no.elim⟩
theorem ss_par3 {i j l : Nat} {x y z : Str} {a b c : Expr} {ma : MA} {px py pz pt pos : Pos} {kt k2 pt2} (hc : X.calm = true) (hN : X.N.Nodup) (hi : X.N[i]? = some x) (hj : X.N[j]? = some y) (hl : X.N[l]? = some z) (hij : i ≠ j) (hil : i ≠ l) (hjl : j ≠ l)
    (hx : X.env.scope.names.lookup x = some .local) (hy : X.env.scope.names.lookup y = some .local) (hz : X.env.scope.names.lookup z = some .local) (ha : SA X [a, b, c] ma)
    (hw : swappedStores [.Tuple [.Name x px, .Name y py, .Name z pz] kt pt] (.Tuple [a, b, c] k2 pt2) X.env = pure (some [x, y, z]))
    (hs : swapsWithSole [.Tuple [.Name x px, .Name y py, .Name z pz] kt pt] (.Tuple [a, b, c] k2 pt2) pos.line X.env = pure false) :
    SS X (.Assign [.Tuple [.Name x px, .Name y py, .Name z pz] kt pt] (.Tuple [a, b, c] k2 pt2) pos) (sPar3 i j l ma) := ps_imp (ps_par3 hc hN hi hj hl hij hil hjl hx hy hz ha hw hs) fun D σ H ⟨ι, s, S, sr, nr, h⟩ =>
  ⟨ι, s, S, sr, nr, bindAS h fun ds S1 ι1 H1 vs g1 sr1 dr1 h1 => by
    split at h1
    · obtain ⟨v, vs, rfl, q1, r⟩ := DRs.cons_iff.mp dr1
      obtain ⟨w, ws, rfl, q2, r⟩ := DRs.cons_iff.mp r
      obtain ⟨u, us, rfl, q3, r⟩ := DRs.cons_iff.mp r
      cases DRs.nil_iff.mp r
      exact ⟨v, w, u, rfl, h1.nx sr1 ((((nr.mono g1.wk).set i q1).set j q2).set l q3)⟩
    · exact h1.no.elim⟩

/-! ### for, while -/
theorem drop_next {α : Type} {l : List α} {i : Nat} {d : α} {ds : List α} (h : l.drop i = d :: ds) : l[i]? = some d ∧ l.drop (i + 1) = ds ∧ i < l.length := by
  have hi : i < l.length := by
    rcases Nat.lt_or_ge i l.length with z | z
    · exact z
    · rw [List.drop_eq_nil_of_le z] at h; cases h
  rw [List.drop_eq_getElem_cons hi] at h
  injection h with h1 h2
  exact ⟨by rw [List.getElem?_eq_getElem hi, h1], h2, hi⟩
theorem guard_use {α : Type} {p : Prop} {r : R α} {x : α} {S : Sto} (h : guardS p r = .ok x S) : p ∧ r = .ok x S := by
  unfold guardS at h
  split at h
  · rename_i hp; exact ⟨hp, h⟩
  · cases h
theorem RS.guard {p : Prop} {r : R Fl} {D : Ends} (h : RS K mg ι H (guardS p r) D) : p ∧ RS K mg ι H r D := by
  obtain ⟨f, S', e, k⟩ := h
  obtain ⟨hp, e⟩ := guard_use e
  exact ⟨hp, f, S', e, k⟩
theorem ss_for {tg iter : Expr} {body : List Stmt} {pos : Pos} {mi : MI} {g : MG} {ws : List Nat} {mb : MS} (hp : PassesOwn (model X.prog X.w) X.A X.env X.xe) (hc : X.calm = true) (hi : SI X tg iter mi) (hg : SG X tg ws g) (hb : SSs X body mb)
    (hs : ∀ x, foldedSetIterable iter X.env x = pure x) : SS X (.For tg iter body [] pos) (sFor mi g mb) := ps_imp (ps_for hp hc hi hg hb hs) fun D σ H ⟨ι, s, S, sr, nr, h⟩ => by
  refine ⟨ι, s, S, sr, nr, ?_⟩
  have h' : RS X.K X.mg ι H ((mi s S).bind fun w S1 => loopF w.chk (fun d s S => (g d s S).bind fun s1 S1 => mb s1 S1) w.xs s S1) D := h
  cases q : mi s S with
  | no => rw [q] at h'; exact h'.no.elim
  | ok w S1 =>
    rw [q] at h'
    refine ⟨w, S1, rfl, fun ι1 H1 J g1 sr1 c1 wk => ?_⟩
    generalize hbody : (fun d s S => (g d s S).bind fun s1 S1 => mb s1 S1) = body' at h'
    have h1 : RS X.K X.mg ι1 H1 (loopF w.chk body' w.xs s S1) D := RS.later h' g1
    refine ⟨fun i m σ H => ∃ ι s S, Gro X.K ι1 H1 ι H ∧ SR X.K ι H X.mg S ∧ NR X.K ι H s σ ∧ m = w.xs.length - i ∧ RS X.K X.mg ι H (loopF w.chk body' (w.xs.drop i) s S) D,
      ⟨_, ι1, s, S1, Gro.refl, sr1, nr.mono g1.wk, rfl, by rw [List.drop_zero]; exact h1⟩, ?_⟩
    rintro i m σ2 H2 ⟨ι2, s2, S2, g2, sr2, nr2, rfl, h2⟩
    cases hd : w.xs.drop i with
    | nil =>
      rw [hd] at h2
      obtain ⟨hc2, h2⟩ := RS.guard (show RS X.K X.mg ι2 H2 (guardS (w.chk S2) (.ok (.nx s2) S2)) D from h2)
      exact .inl ⟨(wk ι2 H2 S2 i g2 sr2 hc2).1 (by simpa using hd), h2.nx sr2 nr2⟩
    | cons d ds =>
      obtain ⟨ed, er, hil⟩ := drop_next hd
      rw [hd] at h2
      obtain ⟨hc2, h2⟩ := RS.guard (show RS X.K X.mg ι2 H2 (guardS (w.chk S2) ((body' d s2 S2).bind fun f S1 => match f with
        | .nx s1 => loopF w.chk body' ds s1 S1
        | .ct s1 => loopF w.chk body' ds s1 S1
        | .bk s1 => .ok (.nx s1) S1
        | .ret x => .ok (.ret x) S1)) D from h2)
      obtain ⟨go, yl⟩ := (wk ι2 H2 S2 i g2 sr2 hc2).2 d ed
      refine .inr ⟨go, fun σ H => ∃ ι s S, Gro X.K ι1 H1 ι H ∧ SR X.K ι H X.mg S ∧ NR X.K ι H s σ ∧ RS X.K X.mg ι H (loopF w.chk body' (w.xs.drop (i + 1)) s S) D, fun σ' H' ⟨ι, s, S, g, sr, nr, h⟩ => ⟨w.xs.length - (i + 1), by omega, ι, s, S, g, sr, nr, rfl, h⟩, fun x H3 hy => ?_⟩
      obtain ⟨g3, sr3, dr3⟩ := yl x H3 hy
      subst hbody
      have h3 : RS X.K X.mg ι2 H3 (((g d s2 S2).bind fun s1 S1 => mb s1 S1).bind fun f S1 => match f with
        | .nx s1 => loopF w.chk (fun d s S => (g d s S).bind fun s1 S1 => mb s1 S1) ds s1 S1
        | .ct s1 => loopF w.chk (fun d s S => (g d s S).bind fun s1 S1 => mb s1 S1) ds s1 S1
        | .bk s1 => .ok (.nx s1) S1
        | .ret x => .ok (.ret x) S1) D := RS.later h2 g3
      cases qg : g d s2 S2 with
      | no => rw [qg] at h3; exact h3.no.elim
      | ok s3 S3 =>
        rw [qg] at h3
        refine ⟨ι2, s2, S2, d, sr3, nr2.mono g3.wk, dr3, ?_⟩
        rw [qg]
        refine ⟨s3, S3, rfl, fun ι4 H4 σ4 g4 sr4 nr4 _ _ => ⟨ι4, s3, S3, sr4, nr4, ?_⟩⟩
        have h4 : RS X.K X.mg ι4 H4 ((mb s3 S3).bind fun f S1 => match f with
          | .nx s1 => loopF w.chk (fun d s S => (g d s S).bind fun s1 S1 => mb s1 S1) ds s1 S1
          | .ct s1 => loopF w.chk (fun d s S => (g d s S).bind fun s1 S1 => mb s1 S1) ds s1 S1
          | .bk s1 => .ok (.nx s1) S1
          | .ret x => .ok (.ret x) S1) D := RS.later h3 g4
        cases qb : mb s3 S3 with
        | no => rw [qb] at h4; exact h4.no.elim
        | ok f S4 =>
          rw [qb] at h4
          refine ⟨f, S4, rfl, ?_⟩
          cases f with
          | nx s5 => exact fun ι5 H5 σ5 g5 sr5 nr5 => ⟨ι5, s5, S4, ((g2.trans g3).trans g4).trans g5, sr5, nr5, by rw [er]; exact RS.later h4 g5⟩
          | ct s5 => exact fun ι5 H5 σ5 g5 sr5 nr5 => ⟨ι5, s5, S4, ((g2.trans g3).trans g4).trans g5, sr5, nr5, by rw [er]; exact RS.later h4 g5⟩
          | bk s5 =>
            obtain ⟨f, S5, e, k⟩ := h4
            cases e
            exact k
          | ret x =>
            obtain ⟨f, S5, e, k⟩ := h4
            cases e
            exact k
theorem ss_while {c : Expr} {body : List Stmt} {pos : Pos} {mc : MT} {mb : MS} (hp : PassesOwn (model X.prog X.w) X.A X.env X.xe) (hc : STe X c mc) (hb : SSs X body mb) : SS X (.While c body [] pos) (sWhile mc mb) := ps_imp (ps_while hp hc hb) fun D σ H ⟨ι, s, S, sr, nr, h⟩ => by
  refine ⟨fun m σ2 H2 => ∃ ι s S, SR X.K ι H2 X.mg S ∧ NR X.K ι H2 s σ2 ∧ RS X.K X.mg ι H2 (loopW mc mb m s S) D, ⟨TURNS, ι, s, S, sr, nr, h⟩, ?_⟩
  rintro m σ2 H2 ⟨ι2, s2, S2, sr2, nr2, h2⟩
  cases m with
  | zero => exact (RS.no h2).elim
  | succ n =>
    refine ⟨ι2, s2, S2, sr2, nr2, bindTS (show RS X.K X.mg ι2 H2 ((mc s2 S2).bind fun c S1 => if c = true then (mb s2 S1).bind fun f S2 => match f with
      | .nx s1 => loopW mc mb n s1 S2
      | .ct s1 => loopW mc mb n s1 S2
      | .bk s1 => .ok (.nx s1) S2
      | .ret x => .ok (.ret x) S2
      else .ok (.nx s2) S1) D from h2) fun b S3 ι3 H3 g3 sr3 h3 => ?_⟩
    cases b with
    | false => rw [if_neg Bool.false_ne_true] at h3 ⊢; exact h3.nx sr3 (nr2.mono g3.wk)
    | true =>
      rw [if_pos rfl] at h3 ⊢
      refine ⟨fun σ' H' => ∃ ι s S, SR X.K ι H' X.mg S ∧ NR X.K ι H' s σ' ∧ RS X.K X.mg ι H' (loopW mc mb n s S) D, fun σ' H' q => ⟨n, Nat.lt_succ_self n, q⟩, ι3, s2, S3, sr3, nr2.mono g3.wk, ?_⟩
      cases qb : mb s2 S3 with
      | no => rw [qb] at h3; exact h3.no.elim
      | ok f S4 =>
        rw [qb] at h3
        refine ⟨f, S4, rfl, ?_⟩
        cases f with
        | nx s5 => exact fun ι5 H5 σ5 g5 sr5 nr5 => ⟨ι5, s5, S4, sr5, nr5, RS.later h3 g5⟩
        | ct s5 => exact fun ι5 H5 σ5 g5 sr5 nr5 => ⟨ι5, s5, S4, sr5, nr5, RS.later h3 g5⟩
        | bk s5 =>
          obtain ⟨f, S5, e, k⟩ := h3
          cases e
          exact k
        | ret x =>
          obtain ⟨f, S5, e, k⟩ := h3
          cases e
          exact k
end
end Ev
/-! EvJ: comprehensions, stores into objects -/
namespace Ev
open PySem L2 PyProof.Rows
section
variable {K : PySem.W.Frag} {ι ι' ι0 : List Addr} {H H' H0 : Hp} {mg : Str → Option Value} {X : Cx}
theorem wipe_at (σ : L2.St) : ∀ (vs : List Nat) (j : Nat), (wipe σ vs)[j]? = if j ∈ vs ∧ j < σ.length then some none else σ[j]?
  | [], j => by simp [wipe]
  | v :: vs, j => by
    unfold wipe
    by_cases hj : v = j
    · subst hj
      by_cases hl : v < σ.length
      · rw [List.getElem?_set_self (by rw [wipe_length]; exact hl)]; simp [hl]
      · rw [List.getElem?_eq_none (by rw [List.length_set, wipe_length]; omega)]
        have : ¬ (v ∈ v :: vs ∧ v < σ.length) := fun h => hl h.2
        rw [if_neg this, List.getElem?_eq_none (by omega)]
    · rw [List.getElem?_set_ne hj, wipe_at σ vs j]
      have : (j ∈ v :: vs) ↔ j ∈ vs := by simp [Ne.symm hj]
      simp only [this]
theorem wipe_eq {σ σ2 : L2.St} {vs ws : List Nat} (hl : σ2.length = (wipe σ vs).length) (hf : ∀ j : Nat, j ∉ ws → σ2[j]? = (wipe σ vs)[j]?) (hw : ∀ j ∈ ws, j ∈ vs) : wipe σ2 vs = wipe σ vs := by
  have hl2 : σ2.length = σ.length := by rw [hl, wipe_length]
  apply List.ext_getElem?
  intro j
  rw [wipe_at, wipe_at, hl2]
  by_cases h : j ∈ vs ∧ j < σ.length
  · rw [if_pos h, if_pos h]
  · rw [if_neg h, if_neg h]
    by_cases hj : j ∈ ws
    · have : ¬ j < σ.length := fun z => h ⟨hw j hj, z⟩
      rw [List.getElem?_eq_none (by omega), List.getElem?_eq_none (by omega)]
    · rw [hf j hj, wipe_at, if_neg h]
theorem NR.wipe {s : Env} {σ : L2.St} (h : NR K ι H s σ) : ∀ vs : List Nat, NR K ι H (wipeE s vs) (L2.wipe σ vs)
  | [] => h
  | v :: vs => by
    have ih := NR.wipe h vs
    unfold wipeE L2.wipe
    refine ⟨by rw [List.length_set, List.length_set]; exact ih.1, fun i d e => ?_⟩
    by_cases hi : i = v
    · subst hi
      have hl := (List.getElem?_eq_some_iff.mp e).1
      rw [List.length_set] at hl
      rw [List.getElem?_set_self hl] at e
      cases e
    · rw [List.getElem?_set_ne (Ne.symm hi)] at e
      obtain ⟨w, h1, h2⟩ := ih.2 i d e
      exact ⟨w, by rw [List.getElem?_set_ne (Ne.symm hi)]; exact h1, h2⟩
/-- a list that has no number grows -/
theorem Wk.off {D : Addr} {vs ws : List V} (hD : H D = some (.lst vs)) : Wk K ι H ι (upd H D (.lst ws)) := ⟨⟨[], by simp⟩, fun a ts e => by
  rw [upd_ne (ne_of e hD (by intro z; cases z))]; exact e⟩
theorem SR.off {S : Sto} (sr : SR K ι H mg S) {D : Addr} {vs ws : List V} (hD : H D = some (.lst vs)) (hn : D ∉ ι) : SR K ι (upd H D (.lst ws)) mg S :=
  ⟨sr.len, sr.nd, fun n o a e1 e2 => (sr.obj n o a e1 e2).mono (Wk.off hD) fun u q => by
    have na : a ≠ D := fun z => hn (by rw [← z]; exact List.mem_of_getElem? e2)
    rw [upd_ne na]; exact q⟩
theorem Gro.own {D : Addr} {o : HO} (g : Gro K ι H ι' H') (hD : H D = none) : Gro K ι H ι' (upd H' D o) := by
  have ne : ∀ a u, H a = some u → a ≠ D := fun a u e => ne_of_none e hD
  refine ⟨g.pre, fun a vs e => by rw [upd_ne (ne a _ e)]; exact g.tup a vs e, fun a u e n => ?_, fun a u e => ?_, fun a od u e => by rw [upd_ne (ne a _ e)]; exact g.frz a od u e⟩
  · obtain ⟨h1, h2⟩ := g.keep a u e n
    exact ⟨by rw [upd_ne (ne a _ e)]; exact h1, h2⟩
  · obtain ⟨u', h1⟩ := g.dom a u e
    exact ⟨u', by rw [upd_ne (ne a _ e)]; exact h1⟩
abbrev STs (X : Cx) (ifs : List Expr) (m : MT) : Prop := PTs X ifs (tMT X.K X.mg m)
theorem sts_nil : STs X [] tYesM := ⟨fun pins s σ H Q I ⟨ι, st, S, sr, nr, h⟩ => pts_nil.run pins s σ H Q I (h.here sr)⟩
theorem sts_one {c : Expr} {m : MT} (h : STe X c m) : STs X [c] m := pts_one h
theorem comp_tM {mi : MI} {g : MG} {ws : List Nat} {tt : MT} {te : M} {vs : List Nat} (hw : ∀ j ∈ ws, j ∈ vs) : ∀ σ H Q, tM K mg (eComp mi g tt te vs) σ H Q → tLc (tMI K mg mi) (tMG K mg ws g) (tMT K mg tt) (tM K mg te) vs σ H Q := fun σ H Q ⟨ι, s, S, sr, nr, h⟩ => by
  refine ⟨ι, s, S, sr, nr, ?_⟩
  have h' : RQ K mg ι H ((mi s S).bind fun w S1 => (loopC w.chk g tt te (wipeE s vs) w.xs [] S1).bind fun acc S2 => .ok (.tl acc) S2) Q := h
  cases q : mi s S with
  | no => rw [q] at h'; exact h'.no.elim
  | ok w S1 =>
    rw [q] at h'
    refine ⟨w, S1, rfl, fun ι1 H1 J g1 sr1 c1 wk => fun D hD => ?_⟩
    have hDn : D ∉ ι1 := sr1.fresh hD
    have nr1 := (nr.mono g1.wk).wipe vs
    have hD0 : H D = none := g1.free hD
    generalize hs0 : wipeE s vs = s0 at h' nr1
    have h1 : ∃ accF S2, loopC w.chk g tt te s0 w.xs [] S1 = .ok accF S2 ∧ RQ K mg ι H (.ok (.tl accF) S2) Q := by
      have h2 : RQ K mg ι H ((loopC w.chk g tt te s0 w.xs [] S1).bind fun acc S2 => .ok (.tl acc) S2) Q := h'
      cases q2 : loopC w.chk g tt te s0 w.xs [] S1 with
      | no => rw [q2] at h2; exact h2.no.elim
      | ok accF S2 => rw [q2] at h2; exact ⟨accF, S2, rfl, h2⟩
    refine ⟨fun i m H' => ∃ ι' S' acc av, Gro K ι1 H1 ι' H' ∧ SR K ι' H' mg S' ∧ D ∉ ι' ∧ H' D = some (.lst av) ∧ DRs K ι' H' acc av ∧ m = w.xs.length - i ∧ ∃ accF S2, loopC w.chk g tt te s0 (w.xs.drop i) acc S' = .ok accF S2 ∧ RQ K mg ι H (.ok (.tl accF) S2) Q,
      ⟨_, ι1, S1, [], [], Gro.own Gro.refl hD, sr1.grow (Gro.laid hD hDn) fun a _ u e => by rw [upd_ne (ne_of_none e hD)]; exact e, hDn, upd_same, DRs.nil, rfl, by rw [List.drop_zero]; exact h1⟩, ?_⟩
    rintro i m H2 ⟨ι2, S2, acc, av, g2, sr2, hn2, hD2, dr2, rfl, accF, SF, eL, fin⟩
    cases hd : w.xs.drop i with
    | nil =>
      rw [hd] at eL
      obtain ⟨hc, eL⟩ := guard_use (show guardS (w.chk S2) (.ok acc S2) = .ok accF SF from eL)
      cases eL
      exact .inl ⟨(wk ι2 H2 S2 i g2 sr2 hc).1 (by simpa using hd), fin.use (g1.trans g2) sr2 ⟨D, av, rfl, hD0, hD2, hn2, dr2⟩⟩
    | cons d ds =>
      obtain ⟨ed, er, hil⟩ := drop_next hd
      rw [hd] at eL
      obtain ⟨hc, eL⟩ := guard_use (show guardS (w.chk S2) ((g d s0 S2).bind fun s1 S1 => (tt s1 S1).bind fun b S2 =>
        if b = true then (force (te s1 S2)).bind fun y S3 => if acc.length < BIG then loopC w.chk g tt te s0 ds (acc ++ [y]) S3 else .no
        else loopC w.chk g tt te s0 ds acc S2) = .ok accF SF from eL)
      obtain ⟨go, yl⟩ := (wk ι2 H2 S2 i g2 sr2 hc).2 d ed
      refine .inr ⟨go, fun H' => ∃ ι' S' acc av, Gro K ι1 H1 ι' H' ∧ SR K ι' H' mg S' ∧ D ∉ ι' ∧ H' D = some (.lst av) ∧ DRs K ι' H' acc av ∧ ∃ accF S2, loopC w.chk g tt te s0 (w.xs.drop (i + 1)) acc S' = .ok accF S2 ∧ RQ K mg ι H (.ok (.tl accF) S2) Q,
        fun H' ⟨ι', S', acc, av, g, sr, hn, hD, dr, r⟩ => ⟨w.xs.length - (i + 1), by omega, ι', S', acc, av, g, sr, hn, hD, dr, rfl, r⟩, fun x H3 hy => ?_⟩
      obtain ⟨g3, sr3, dr3⟩ := yl x H3 hy
      cases qg : g d s0 S2 with
      | no => rw [qg] at eL; cases eL
      | ok s1 S3 =>
        rw [qg] at eL
        have eL1 : ((tt s1 S3).bind fun b S2 => if b = true then (force (te s1 S2)).bind fun y S3 => if acc.length < BIG then loopC w.chk g tt te s0 ds (acc ++ [y]) S3 else .no
          else loopC w.chk g tt te s0 ds acc S2) = .ok accF SF := eL
        refine ⟨ι2, s0, S2, d, sr3, (nr1.mono g2.wk).mono g3.wk, dr3, ?_⟩
        rw [qg]
        refine ⟨s1, S3, rfl, fun ι4 H4 σ4 g4 sr4 nr4 l4 f4 => ⟨wipe_eq l4 f4 hw, ι4, s1, S3, sr4, nr4, ?_⟩⟩
        cases qt : tt s1 S3 with
        | no => rw [qt] at eL1; cases eL1
        | ok b S5 =>
          rw [qt] at eL1
          have eL2 : (if b = true then (force (te s1 S5)).bind fun y S3 => if acc.length < BIG then loopC w.chk g tt te s0 ds (acc ++ [y]) S3 else .no else loopC w.chk g tt te s0 ds acc S5) = .ok accF SF := eL1
          refine ⟨b, S5, rfl, fun ι5 H5 g5 sr5 => ?_⟩
          have gD : Gro K ι2 H2 ι5 H5 := (g3.trans g4).trans g5
          obtain ⟨hD5, hn5⟩ := gD.keep D _ hD2 hn2
          cases b with
          | false =>
            rw [if_neg Bool.false_ne_true] at eL2
            refine iteF ?_
            exact ⟨ι5, S5, acc, av, g2.trans gD, sr5, hn5, hD5, dr2.mono gD.wk, accF, SF, by rw [er]; exact eL2, fin⟩
          | true =>
            rw [if_pos rfl] at eL2
            refine iteT ?_
            refine ⟨ι5, s1, S5, sr5, nr4.mono g5.wk, bindDG (β := List Ev.D) (W := fun _ _ r => ∃ accF S2, r = .ok accF S2 ∧ RQ K mg ι H (.ok (.tl accF) S2) Q) (fun _ _ ⟨_, _, e, _⟩ => by cases e) (fun _ _ _ _ _ h _ => h) ⟨accF, SF, eL2, fin⟩ fun y S6 ι6 H6 v g6 sr6 dr6 h6 => ?_⟩
            obtain ⟨aF, SF2, e6, fin6⟩ := h6
            split at e6
            · rename_i hz
              obtain ⟨hD6, hn6⟩ := g6.keep D _ hD5 hn5
              have dr7 : DRs K ι6 H6 acc av := (dr2.mono gD.wk).mono g6.wk
              refine ⟨av, hD6, by rw [dr7.length]; exact big_lt hz, ι6, S6, acc ++ [y], av ++ [v], ((g2.trans gD).trans g6).own hD, sr6.off hD6 hn6, hn6, upd_same, ?_, aF, SF2, by rw [er]; exact e6, fin6⟩
              exact (dr7.append (DRs.cons dr6 DRs.nil)).mono (Wk.off hD6)
            · cases e6
theorem se_comp {elt tg iter : Expr} {ifs : List Expr} {scope : Scope} {own : List (Str × Nat)} {pos : Pos} {mi : MI} {g : MG} {ws : List Nat} {tt : MT} {te : M} (hc : X.calm = true) (hN : X.N.Nodup) (hi : SI X tg iter mi) (ok : BlkOk X.N X.env.scope scope own)
    (hg : ∀ (s : Shared) (H : Hp) (C : Addr) (cl : List (Str × Addr)) (fp : List Addr), SG (X.blk s H scope (compEnvC scope cl C X.env) fp) tg ws g) (ht : ∀ (s : Shared) (H : Hp) (C : Addr) (cl : List (Str × Addr)) (fp : List Addr), STs (X.blk s H scope (compEnvC scope cl C X.env) fp) ifs tt)
    (he : ∀ (s : Shared) (H : Hp) (C : Addr) (cl : List (Str × Addr)) (fp : List Addr), SE (X.blk s H scope (compEnvC scope cl C X.env) fp) elt te) (hw : ∀ j ∈ ws, j ∈ own.map (·.2)) (hs : ∀ x, foldedSetIterable iter X.env x = pure x) :
    SE X (.ListComp elt [⟨tg, iter, ifs, 0⟩] scope pos) (eComp mi g tt te (own.map (·.2))) := pe_imp (pe_lc hc hN hi ok hg ht he hs) (comp_tM hw)
/-- y = [..] -/
theorem ss_setLc {i : Nat} {y : Str} {py : Pos} {elt tg iter : Expr} {ifs : List Expr} {scope : Scope} {own : List (Str × Nat)} {pos spos : Pos} {mi : MI} {g : MG} {ws : List Nat} {tt : MT} {te : M} (hc : X.calm = true) (hN : X.N.Nodup) (hy : X.N[i]? = some y) (hyl : X.env.scope.names.lookup y = some .local)
    (hsw : swapsWith (.ListComp elt [⟨tg, iter, ifs, 0⟩] scope pos) (some (.Name y py)) spos.line X.env = pure true) (hi : SI X tg iter mi) (ok : BlkOk X.N X.env.scope scope own)
    (hg : ∀ (s : Shared) (H : Hp) (C : Addr) (cl : List (Str × Addr)) (fp : List Addr), SG (X.blk s H scope (compEnvC scope cl C X.env) fp) tg ws g) (ht : ∀ (s : Shared) (H : Hp) (C : Addr) (cl : List (Str × Addr)) (fp : List Addr), STs (X.blk s H scope (compEnvC scope cl C X.env) fp) ifs tt)
    (he : ∀ (s : Shared) (H : Hp) (C : Addr) (cl : List (Str × Addr)) (fp : List Addr), SE (X.blk s H scope (compEnvC scope cl C X.env) fp) elt te) (hw : ∀ j ∈ ws, j ∈ own.map (·.2)) (hs : ∀ x, foldedSetIterable iter X.env x = pure x) :
    SS X (.Assign [.Name y py] (.ListComp elt [⟨tg, iter, ifs, 0⟩] scope pos) spos) (sAsg (eComp mi g tt te (own.map (·.2))) (gNm i)) :=
  ps_imp (ps_setLc hc hN hy hyl hsw hi ok hg ht he hs) fun D σ H h => comp_tM hw σ H _ (asg_tM (ws := [i]) (t := gName i) (fun v σ H Q ⟨ι, s, S, d, sr, nr, dr, h⟩ => by
    obtain ⟨s', S', e, k⟩ := h
    cases e
    exact k ι H _ Gro.refl sr (nr.set i dr) (List.length_set ..) fun j hj => by rw [List.getElem?_set_ne (by intro z; exact hj (by simp [z]))]) D σ H h)

/-! ### o[i] = v -/
def rSetA : TSet := fun o i v H Q => rSetL o i v H Q ∨ ∃ a H', o = .ref a ∧ DPx H a i v H' ∧ Q H'
theorem set_all (hu : X.A.units + 1 < cLine) : PSet X rSetA := by
  intro pins s σ H o i v ov iv u Q I ro ri rv h
  rcases h with h | ⟨a, H', rfl, g, q⟩
  · exact set_list pins s σ H o i v ov iv u Q I ro ri rv h
  · cases ro
    exact dx_setItem hu I g ri rv fun s' I' => ⟨H', I', q⟩
def RU (K : PySem.W.Frag) (mg : Str → Option Value) (ι : List Addr) (H : Hp) (r : R Unit) (Q : Hp → Prop) : Prop :=
  ∃ S', r = .ok () S' ∧ ∀ ι' H', Gro K ι H ι' H' → SR K ι' H' mg S' → Q H'
theorem OR.dct_notup {n : Nat} {S : Sto} (sr : SR K ι H mg S) {a : Addr} (ia : ι[n]? = some a) {kvs : List (D × D)} (e : S[n]? = some (.dct kvs)) : Mut (H a) := by
  obtain ⟨u, hu, c⟩ := sr.obj n _ a e ia
  rw [hu]
  rcases c with ⟨kv, rfl, _⟩ | ⟨kv, rfl, _⟩ <;> exact True.intro
theorem paired_len {α β : Type} {F : α → β → Prop} {l : List α} {m : List β} (h : Paired F l m) : l.length = m.length := Paired.length h
theorem sSet {S : Sto} {o i d : D} {ov iv v : V} {Q : Hp → Prop} (sr : SR K ι H mg S) (ro : DR K ι H o ov) (ri : DR K ι H i iv) (rd : DR K ι H d v) (h : RU K mg ι H (setD o i d S) Q) : rSetA ov iv v H Q := by
  obtain ⟨S', e, k⟩ := h
  unfold setD at e
  split at e
  · rename_i n
    obtain ⟨a, rfl, ia⟩ := ro.ref
    split at e
    · rename_i xs e1
      split at e
      · rename_i kk
        split at e
        · rename_i j ej
          cases e
          cases ri.int
          obtain ⟨vs, ha, r⟩ := sr.lst e1 ia
          have g : Gro K ι H ι (upd H a (.lst (vs.set j v))) := Gro.put sr ia (by rw [ha]; exact True.intro)
          exact .inl ⟨a, vs, kk, j, rfl, rfl, ha, by rw [r.length]; exact ej, k ι _ g (sr.put ia g ⟨_, upd_same, (r.set j rd).mono g.wk⟩)⟩
        · cases e
      · cases e
    · rename_i kvs e1
      split at e
      · rename_i q hq
        split at e
        · rename_i hz
          cases e
          obtain ⟨u, ha, c⟩ := sr.obj n _ a e1 ia
          have nt := OR.dct_notup sr ia e1
          refine .inr ⟨a, ?_⟩
          rcases c with ⟨kv, rfl, p⟩ | ⟨kv, rfl, p⟩
          · cases q with
            | inl kk =>
              have hk := keyOf_l.mp hq
              have ek := keyD_kV hk ri
              subst ek
              have g : Gro K ι H ι (upd H a (.dK (L2.putK kv kk v))) := Gro.put sr ia nt
              refine ⟨_, rfl, .inl (DPut.k ha (by rw [← paired_len p]; exact big_lt hz.2)), k ι _ g (sr.put ia g ⟨_, upd_same, .inl ⟨_, rfl, ?_⟩⟩)⟩
              exact Paired.mono' (put_l p hk rd) fun _ _ q => ⟨q.1, q.2.mono g.wk⟩
            | inr ks =>
              cases p with
              | nil =>
                have hk := keyOf_r.mp hq
                obtain ⟨b, rfl, hb⟩ := keyT_at hk ri
                have g : Gro K ι H ι (upd H a (.dT [(ks, v)])) := Gro.put sr ia nt
                refine ⟨_, rfl, .inr (.inl ⟨ks, b, ha, rfl, hb, rfl⟩), k ι _ g (sr.put ia g ⟨_, upd_same, .inr ⟨_, rfl, .cons ⟨hk, rd.mono g.wk⟩ .nil⟩⟩)⟩
              | cons r t => obtain ⟨k', e⟩ := kindOk_l hz.1 r.1; cases e
          · cases q with
            | inr ks =>
              have hk := keyOf_r.mp hq
              obtain ⟨b, rfl, hb⟩ := keyT_at hk ri
              have g : Gro K ι H ι (upd H a (.dT (L2.putK kv ks v))) := Gro.put sr ia nt
              refine ⟨_, rfl, .inl (DPut.t ha hb (by rw [← paired_len p]; exact big_lt hz.2)), k ι _ g (sr.put ia g ⟨_, upd_same, .inr ⟨_, rfl, ?_⟩⟩)⟩
              exact Paired.mono' (put_r p hk rd) fun _ _ q => ⟨q.1, q.2.mono g.wk⟩
            | inl kk =>
              cases p with
              | nil =>
                have hk := keyOf_l.mp hq
                have ek := keyD_kV hk ri
                subst ek
                have g : Gro K ι H ι (upd H a (.dK [(kk, v)])) := Gro.put sr ia nt
                refine ⟨_, rfl, .inr (.inr ⟨kk, ha, rfl, rfl⟩), k ι _ g (sr.put ia g ⟨_, upd_same, .inl ⟨_, rfl, .cons ⟨hk, rd.mono g.wk⟩ .nil⟩⟩)⟩
              | cons r t => obtain ⟨k', e⟩ := kindOk_r hz.1 r.1; cases e
        · cases e
      · cases e
    · cases e
  · cases e
theorem sg_sub {o i : Expr} {mo mi : M} {pos : Pos} (hu : X.A.units + 1 < cLine) (ho : SE X o mo) (hi : SE X i mi)
    (ha : ∀ v, assign (.Subscript o i pos) X.env v = (do
      let ov ← holding [v] (eval o X.env)
      let iv ← holding [v, ov] (eval i X.env)
      standAt pos
      holding [v, ov, iv] (setItem ov iv v)
      release [v, ov, iv] [])) : SG X (.Subscript o i pos) [] (gSb mo mi) :=
  pg_imp (pg_sub ho hi (set_all hu) ha) fun v σ H Q ⟨ι, s, S, d, sr, nr, dr, h⟩ => by
    have hW : ∃ s' S', ((force (mo s S)).bind fun od S1 => (force (mi s S1)).bind fun id S2 => (setD od id d S2).bind fun _ S3 => (.ok s S3 : R Env)) = .ok s' S' ∧ ∀ ι' H' σ', Gro X.K ι H ι' H' → SR X.K ι' H' X.mg S' → NR X.K ι' H' s' σ' → σ'.length = σ.length → (∀ j : Nat, j ∉ ([] : List Nat) → σ'[j]? = σ[j]?) → Q σ' H' := h
    refine ⟨ι, s, S, sr, nr, bindDG (β := Env) (W := fun ι1 H1 r => Gro X.K ι H ι1 H1 ∧ ∃ s' S', r = .ok s' S' ∧ ∀ ι' H' σ', Gro X.K ι H ι' H' → SR X.K ι' H' X.mg S' → NR X.K ι' H' s' σ' → σ'.length = σ.length → (∀ j : Nat, j ∉ ([] : List Nat) → σ'[j]? = σ[j]?) → Q σ' H')
      (fun _ _ ⟨_, _, _, e, _⟩ => by cases e) (fun _ _ _ _ _ ⟨g0, h⟩ g => ⟨g0.trans g, h⟩) ⟨Gro.refl, hW⟩ fun od S1 ι1 H1 ov g1 sr1 dr1 h1 => ?_⟩
    refine ⟨ι1, s, S1, sr1, nr.mono g1.wk, bindDG (β := Env) (W := fun ι1 H1 r => Gro X.K ι H ι1 H1 ∧ ∃ s' S', r = .ok s' S' ∧ ∀ ι' H' σ', Gro X.K ι H ι' H' → SR X.K ι' H' X.mg S' → NR X.K ι' H' s' σ' → σ'.length = σ.length → (∀ j : Nat, j ∉ ([] : List Nat) → σ'[j]? = σ[j]?) → Q σ' H')
      (fun _ _ ⟨_, _, _, e, _⟩ => by cases e) (fun _ _ _ _ _ ⟨g0, h⟩ g => ⟨g0.trans g, h⟩) h1 fun id S2 ι2 H2 iv g2 sr2 dr2 h2 => ?_⟩
    obtain ⟨g0, s', S', e, k⟩ := h2
    cases q : setD od id d S2 with
    | no => rw [q] at e; cases e
    | ok u S3 =>
      rw [q] at e
      cases e
      refine sSet sr2 (dr1.mono g2.wk) dr2 ((dr.mono g1.wk).mono g2.wk) ?_
      rw [q]
      exact ⟨_, rfl, fun ι3 H3 g3 sr3 => k ι3 H3 σ (g0.trans g3) sr3 (((nr.mono g1.wk).mono g2.wk).mono g3.wk) rfl fun _ _ => rfl⟩
end
end Ev
/-! EvK: enumerate of tuples and texts -/
namespace Ev
open PySem L2 PyProof.Rows
/-- the tuple at a, each item in a new pair -/
def IteT (K : PySem.W.Frag) (a : Addr) : It :=
  ⟨fun i H => ∃ (xs : List V) (x : V), SqT K H a xs ∧ xs[i]? = some x, fun i H v H' => ∃ T x, v = .ref T ∧ H T = none ∧ H' = upd H T (.tup [.int (i : Nat), x]) ∧ ∀ xs, SqT K H a xs → xs[i]? = some x, fun i H => ∃ xs : List V, SqT K H a xs ∧ xs.length ≤ i⟩
theorem turn_enumT {P : Program} {w : World} {K : PySem.W.Frag} {elts : List Expr} {kk : Nat} {tpos : Pos} (a e it : Addr) :
    Turn P w K (.Tuple elts kk tpos) (IteT K a) [e, it] e (fun i h => (∃ old, IsEnum h e it ((i : Nat) : Int) old) ∧ h.IsTupleIter it a i ∧ e ≠ it) where
  mem := by simp
  obj := fun i h st b hb => by
    obtain ⟨⟨old, he⟩, ⟨o, ho, hc, hd⟩, _⟩ := st
    have e' : b = e ∨ b = it := by simpa using hb
    rcases e' with z | z
    · rw [z]; exact ⟨_, he, fun v q => nomatch q⟩
    · rw [z]; exact ⟨o, ho, fun v q => by rw [hd] at q; cases q⟩
  keep := fun i h h' st k => let ⟨⟨old, he⟩, hi, hne⟩ := st; ⟨⟨old, k e (by simp) _ he⟩, hi.at fun o q => k it (by simp) o q, hne⟩
  item := by
    intro X hP hw hK hc i pins s σ H E I hf st hg
    subst hP hw hK
    obtain ⟨⟨old, he⟩, hit, hne⟩ := st
    obtain ⟨xs, x, hq, hx⟩ := hg
    obtain ⟨its, rv, p, hz⟩ := I.tuple hq
    obtain ⟨u, hu, ru⟩ := rv.get hx
    have hel : e < s.heap.objs.size := Heap.lt_size he
    have hil : it < s.heap.objs.size := by obtain ⟨_, q, _⟩ := hit; exact Heap.lt_size q
    have nae : e ≠ a := fun z => by
      obtain ⟨o, ho, hcl, _⟩ := p
      rw [← z, he] at ho; cases ho; exact absurd hcl (by simp)
    have nai : a ≠ it := fun z => by
      obtain ⟨o, ho, hcl, _⟩ := p
      obtain ⟨o2, ho2, hc2, _⟩ := hit
      rw [z, ho2] at ho; cases ho; rw [hc2] at hcl; exact absurd hcl (by simp)
    have hil2 : i < its.toArray.size := by rw [List.size_toArray]; exact (List.getElem?_eq_some_iff.mp hu).1
    refine wpAny_pyNext_enum_itemD (Draws.tuple (prog := X.prog) (w := X.w) (A := X.A.in1) (I.ok.hd hc) it a nai its.toArray) he ⟨hit, p⟩ hil2 hne (by simp [hne, nae]) fun y h' tk hy ho st' hT hsz hk => ?_
    have ey : y = u := by
      have : its.toArray[i]? = some u := by simpa using hu
      have hy : its.toArray[i]? = some y := hy
      rw [this] at hy; exact (Option.some.inj hy).symm
    subst ey
    refine ⟨_, rfl, wpAny_letOwnedTupleGo_enum (s := { s with heap := h', toks := tk + 1 }) ho fun h'' he' sb => ?_⟩
    have hT2 : h''.get? s.heap.objs.size = some { cls := .type "tuple", data := .seq #[.int i tk, y] } := (sb.2 _ (Nat.ne_of_gt hel)).trans hT
    have new : ObjOk X.prog X.w (upd H s.heap.objs.size (.tup [.int (i : Nat), x])) h'' s.heap.objs.size (.tup [.int (i : Nat), x]) :=
      ⟨by show 2 ≤ sizeLine; decide, [.int i tk, y], .cons ⟨_, rfl⟩ (.cons ru .nil), ⟨_, hT2, rfl, _, rfl⟩⟩
    have I1 : Inv X pins σ (upd H s.heap.objs.size (.tup [.int (i : Nat), x])) { s with heap := h'', toks := tk + 1 } :=
      I.turnedNew (ch := [e, it]) (fun b ob hb q => (sb.2 b (fun z => hb (by simp [z]))).trans (hk b ob (fun z => hb (by simp [z])) (fun z => hb (by simp [z])) q)) hf (Nat.le_refl _) new
    refine ⟨.ref s.heap.objs.size, _, I1, rfl, ⟨_, x, rfl, I.hok.fresh (Nat.le_refl _), rfl, fun ys hy => by rw [I.tuple_inj hy hq]; exact hx⟩, ⟨⟨y, ?_⟩, st'.1.at fun o q => (sb.2 it (Ne.symm hne)).trans q, hne⟩, fun b hb => ?_⟩
    · have e1 : ((i + 1 : Nat) : Int) = (i : Int) + 1 := by omega
      rw [e1]; exact he'
    · have hb' : b < s.heap.objs.size := by
        have e' : b = e ∨ b = it := by simpa using hb
        rcases e' with z | z
        · rw [z]; exact hel
        · rw [z]; exact hil
      rw [upd_ne (Nat.ne_of_lt hb')]
      exact (hf b hb).1
  done := by
    intro X hP hw hK hc i pins s σ H E I hf st hg
    subst hP hw hK
    obtain ⟨⟨old, he⟩, hit, hne⟩ := st
    obtain ⟨xs, hq, hx⟩ := hg
    obtain ⟨its, rv, p, hz⟩ := I.tuple hq
    obtain ⟨f0, f1, f2, f3, f4, f5⟩ := hf it (by simp)
    have hl := rv.length
    have hT : s.TypeIs (.ref e) "enumerate" := ⟨_, he, rfl⟩
    unfold pyNext
    refine wpAny_bind (wpAny_attempt (wpAny_callSpecial?_slot (name := Str.ofString "__next__") hT PySem.F.slot_enumerate_next
      (wpAny_call_entry PySem.F.slot_enumerate_next hT PySem.F.entry_enumerate_next ?_ (PySem.F.args_enumerate_next_1 _))))
    show wpAny _ _ (field (.ref e) 2 >>= _) _ _ _
    refine wpAny_bind (wpAny_field he rfl (x := .ref it) rfl ?_)
    refine wpAny_bind (wpAny_nextOf_tuple_end (show X.A.in1.handled = none from I.ok.hd hc) hit p (by simp; omega) fun h' x he' hx' => ?_)
    obtain ⟨o, ho, hc'⟩ := hx'
    refine wpAny_bind (wpAny_isInstance (T := "StopIteration") (b := true) ⟨o, ho, hc'⟩ isSubtype_stop ?_)
    exact wpAny_pure ⟨rfl, I.turned (t' := s.toks) (fun b o hb q => he' b o hb q) f0 f1 f3 f4 f5⟩
  self := fun A i s Q E st h => let ⟨⟨_, he⟩, _⟩ := st; wpAny_pyIter_enum he h
/-- the signs of a text, each in a new pair -/
def IteS (x : Str) : It :=
  ⟨fun i _ => i < x.cps.size, fun i H v H' => ∃ T c, v = .ref T ∧ H T = none ∧ H' = upd H T (.tup [.int (i : Nat), .str ⟨#[c]⟩]) ∧ x.cps[i]? = some c, fun i _ => x.cps.size ≤ i⟩
theorem turn_enumS {P : Program} {w : World} {K : PySem.W.Frag} {elts : List Expr} {kk : Nat} {tpos : Pos} (x : Str) (t : Tok) (e it : Addr) :
    Turn P w K (.Tuple elts kk tpos) (IteS x) [e, it] e (fun i h => (∃ old, IsEnum h e it ((i : Nat) : Int) old) ∧ h.IsStrIter it (strIterType x) x t i ∧ e ≠ it ∧ i ≤ x.cps.size) where
  mem := by simp
  obj := fun i h st b hb => by
    obtain ⟨⟨old, he⟩, ⟨o, ho, hc, hd⟩, _⟩ := st
    have e' : b = e ∨ b = it := by simpa using hb
    rcases e' with z | z
    · rw [z]; exact ⟨_, he, fun v q => nomatch q⟩
    · rw [z]; exact ⟨o, ho, fun v q => by rw [hd] at q; cases q⟩
  keep := fun i h h' st k => let ⟨⟨old, he⟩, ⟨o, ho, hc, hd⟩, hne⟩ := st; ⟨⟨old, k e (by simp) _ he⟩, ⟨o, k it (by simp) o ho, hc, hd⟩, hne⟩
  item := by
    intro X hP hw hK hc i pins s σ H E I hf st hg
    subst hP hw hK
    obtain ⟨⟨old, he⟩, hit, hne, _⟩ := st
    have hg : i < x.cps.size := hg
    have hel : e < s.heap.objs.size := Heap.lt_size he
    have hil : it < s.heap.objs.size := by obtain ⟨_, q, _⟩ := hit; exact Heap.lt_size q
    refine wpAny_pyNext_enum_itemD (Draws.text (prog := X.prog) (w := X.w) (A := X.A.in1) (I.ok.hd hc) it x t) he hit hg hne (by simp [hne]) fun y h' tk hy ho st' hT hsz hk => ?_
    obtain ⟨c, u, hcc, rfl⟩ := hy
    refine ⟨_, rfl, wpAny_letOwnedTupleGo_enum (s := { s with heap := h', toks := tk + 1 }) ho fun h'' he' sb => ?_⟩
    have hT2 : h''.get? s.heap.objs.size = some { cls := .type "tuple", data := .seq #[.int i tk, .str ⟨#[c]⟩ u] } := (sb.2 _ (Nat.ne_of_gt hel)).trans hT
    have new : ObjOk X.prog X.w (upd H s.heap.objs.size (.tup [.int (i : Nat), .str ⟨#[c]⟩])) h'' s.heap.objs.size (.tup [.int (i : Nat), .str ⟨#[c]⟩]) :=
      ⟨by show 2 ≤ sizeLine; decide, [.int i tk, .str ⟨#[c]⟩ u], .cons ⟨_, rfl⟩ (.cons ⟨_, rfl⟩ .nil), ⟨_, hT2, rfl, _, rfl⟩⟩
    have I1 : Inv X pins σ (upd H s.heap.objs.size (.tup [.int (i : Nat), .str ⟨#[c]⟩])) { s with heap := h'', toks := tk + 1 } :=
      I.turnedNew (ch := [e, it]) (fun b ob hb q => (sb.2 b (fun z => hb (by simp [z]))).trans (hk b ob (fun z => hb (by simp [z])) (fun z => hb (by simp [z])) q)) hf (Nat.le_refl _) new
    refine ⟨.ref s.heap.objs.size, _, I1, rfl, ⟨_, c, rfl, I.hok.fresh (Nat.le_refl _), rfl, hcc⟩, ⟨⟨.str ⟨#[c]⟩ u, ?_⟩, (let ⟨o, q, hc2, hd2⟩ := st'; ⟨o, (sb.2 it (Ne.symm hne)).trans q, hc2, hd2⟩), hne, hg⟩, fun b hb => ?_⟩
    · have e1 : ((i + 1 : Nat) : Int) = (i : Int) + 1 := by omega
      rw [e1]; exact he'
    · have hb' : b < s.heap.objs.size := by
        have e' : b = e ∨ b = it := by simpa using hb
        rcases e' with z | z
        · rw [z]; exact hel
        · rw [z]; exact hil
      rw [upd_ne (Nat.ne_of_lt hb')]
      exact (hf b hb).1
  done := by
    intro X hP hw hK hc i pins s σ H E I hf st hg
    subst hP hw hK
    obtain ⟨⟨old, he⟩, hit, hne, hle⟩ := st
    have hg : x.cps.size ≤ i := hg
    have ei : i = x.cps.size := by omega
    subst ei
    obtain ⟨f0, f1, f2, f3, f4, f5⟩ := hf it (by simp)
    exact wpAny_pyNext_enum_endD (Draws.text (prog := X.prog) (w := X.w) (A := X.A.in1) (I.ok.hd hc) it x t) he hit fun h' eb => ⟨rfl, I.turned (t' := s.toks) (fun b o hb q => eb b o hb q) f0 f1 f3 f4 f5⟩
  self := fun A i s Q E st h => let ⟨⟨_, he⟩, _⟩ := st; wpAny_pyIter_enum he h
end Ev
namespace PySem
open Sem (wp)
open AutoSeq1 (wpAny_loadPart')
theorem ev_meets_enumerate_newT (l : Addr) (items : Array Value) (n : Nat) (dct : Option Addr) (sl : Array (Option Value)) :
    Meets (Builtin.«enumerate.__new__» ⟨[.type "enumerate", .ref l], []⟩) (fun _ R s => s.heap.get? l = some { cls := .type "tuple", dict := dct, data := .seq items n, slots := sl } ∧
      R (.ok (.ret (.ref (s.heap.push { cls := .type "tuple_iterator", data := .fields #[.ref l, .int 0 0] }).objs.size)))
        { s with heap := (s.heap.push { cls := .type "tuple_iterator", data := .fields #[.ref l, .int 0 0] }).push { cls := .type "enumerate", data := .fields #[.none, .bool false, .ref s.heap.objs.size, rawInt 0, .none, .none] } }) :=
  .of_wp fun prog w A R s h => by
    obtain ⟨hp, g, d, tk, os⟩ := s; obtain ⟨hl, h⟩ := h
    have hsub := sub_enumerate
    have hL : Heap.IsTuple (Shared.heap ⟨hp, g, d, tk, os⟩) l items := ⟨_, hl, rfl, n, rfl⟩
    wp_walk using wpAny_loadPart' hl
    refine wpAny_stack_any fun st => wpAny_pure ?_
    split
    · rename_i c _ _ _ _ _
      cases (c == Value.type "enumerate")
      · wp_walk using wpAny_loadPart' hl, wpAny_pyIter_tuple hL
        exact ⟨_, rfl, h⟩
      · wp_walk using wpAny_loadPart' hl, wpAny_pyIter_tuple hL
        exact ⟨_, rfl, h⟩
    · wp_walk using wpAny_loadPart' hl, wpAny_pyIter_tuple hL
      exact ⟨_, rfl, h⟩
theorem ev_call_enumerate_tuple {prog : Program} {w : World} {A : Around} {E : Value → Shared → Prop} {s : Shared} {l : Addr} {items : Array Value} {Q : Value → Shared → Prop} (hL : s.heap.IsTuple l items)
    (h : ∀ h', IsEnum h' (s.heap.objs.size + 1) s.heap.objs.size 0 .none → h'.IsTupleIter s.heap.objs.size l 0 → h'.objs.size = s.heap.objs.size + 2 →
      (∀ b o, s.heap.get? b = some o → h'.get? b = some o) → Q (.ref (s.heap.objs.size + 1)) { s with heap := h' }) :
    wpAny (model prog w) A (call (.type "enumerate") [.ref l]) Q E s := by
  obtain ⟨⟨c, dct, dt, sl⟩, hl, hc, n, hd⟩ := hL
  replace hc : c = .type "tuple" := hc
  replace hd : dt = .seq items n := hd
  subst hc hd
  refine callType_new F.called_enumerate (by decide) (F.typeCall_enumerate_1 _) (F.newCall_enumerate_1 _) (fun obj => F.args_object_init_2 obj _) F.entry_enumerate_new
    (ev_meets_enumerate_newT l items n dct sl) ⟨hl, ?_⟩
  have hz : (s.heap.push { cls := .type "tuple_iterator", data := .fields #[.ref l, .int 0 0] }).objs.size = s.heap.objs.size + 1 := Heap.size_push ..
  show _ ∧ _
  rw [hz]
  have he : IsEnum ((s.heap.push { cls := .type "tuple_iterator", data := .fields #[.ref l, .int 0 0] }).push
      { cls := .type "enumerate", data := .fields #[.none, .bool false, .ref s.heap.objs.size, rawInt 0, .none, .none] }) (s.heap.objs.size + 1) s.heap.objs.size 0 .none := by
    have := Heap.get?_push_size (s.heap.push { cls := .type "tuple_iterator", data := .fields #[.ref l, .int 0 0] })
      (o := { cls := .type "enumerate", data := .fields #[.none, .bool false, .ref s.heap.objs.size, rawInt 0, .none, .none] }) rfl
    rw [hz] at this; exact this
  refine ⟨⟨_, he, rfl⟩, h _ he ⟨_, Heap.get?_push_of_some _ (Heap.get?_push_size _ rfl), rfl, rfl⟩ (by rw [Heap.size_push, hz]) fun b o x => Heap.get?_push_of_some _ (Heap.get?_push_of_some _ x)⟩
end PySem
namespace Ev
open PySem L2 PyProof.Rows
/-- each item with its number -/
def numL (ds : List D) : List D := ds.mapIdx fun i d => .tup [.int (i : Nat), d]
def enumW (w : WK) : WK := ⟨numL w.xs, w.chk⟩
def iEnumM (m : M) : MI := fun s S => (m s S).bind fun x S1 => (walkX x S1).bind fun w S2 => .ok (enumW w) S2
section
variable {K : PySem.W.Frag} {ι ι' ι0 : List Addr} {H H' H0 : Hp} {mg : Str → Option Value} {X : Cx}
theorem RQ.imp {r : Ev.R XR} {Q Q' : VK} (h : RQ K mg ι H r Q) (k : ∀ v H', Q v H' → Q' v H') : RQ K mg ι H r Q' := by
  obtain ⟨x, S, e, f⟩ := h
  exact ⟨x, S, e, fun ι' H' v g sr xr => k v H' (f ι' H' v g sr xr)⟩
theorem numL_at {ds : List D} {i : Nat} {d : D} (h : (numL ds)[i]? = some d) : ∃ e, ds[i]? = some e ∧ d = .tup [.int (i : Nat), e] := by
  unfold numL at h
  rw [List.getElem?_mapIdx] at h
  cases h1 : ds[i]? with
  | none => rw [h1] at h; cases h
  | some e => rw [h1] at h; exact ⟨e, rfl, (Option.some.inj h).symm⟩
theorem pair_new {S : Sto} (sr : SR K ι H mg S) {T : Addr} {i : Nat} {e : D} {x : V} (hT : H T = none) (dr : DR K ι H e x) :
    Gro K ι H ι (upd H T (.tup [.int (i : Nat), x])) ∧ SR K ι (upd H T (.tup [.int (i : Nat), x])) mg S ∧ DR K ι (upd H T (.tup [.int (i : Nat), x])) (.tup [.int (i : Nat), e]) (.ref T) := by
  have g : Gro K ι H ι (upd H T (.tup [.int (i : Nat), x])) := Gro.laid hT (sr.fresh hT)
  exact ⟨g, sr.grow g fun a _ u q => by rw [upd_ne (ne_of_none q hT)]; exact q, ⟨T, _, rfl, upd_same, DRs.cons rfl (DRs.cons (dr.mono g.wk) DRs.nil)⟩⟩
theorem walks_el {a : Addr} {w : WK} (h : ∀ ι1 H1 S, Gro K ι H ι1 H1 → SR K ι1 H1 mg S → w.chk S → ∃ vs, SqL K H1 a vs ∧ DRs K ι1 H1 w.xs vs) : Walks K mg (Ite K a) (enumW w) ι H := fun ι1 H1 S i g sr c => by
  obtain ⟨vs, q, r⟩ := h ι1 H1 S g sr c
  have hl : (enumW w).xs.length = w.xs.length := by show (numL w.xs).length = _; unfold numL; rw [List.length_mapIdx]
  refine ⟨fun hh => ⟨vs, q, by rw [r.length, ← hl]; exact hh⟩, fun d e => ?_⟩
  obtain ⟨d', e1, rfl⟩ := numL_at e
  obtain ⟨v, hv, dv⟩ := r.get e1
  refine ⟨⟨vs, v, q, hv⟩, fun v' H2 ⟨T, x, ev, hT, eH, hx⟩ => ?_⟩
  have e3 := hx vs q
  rw [hv] at e3
  cases e3
  subst ev; subst eH
  exact pair_new sr hT dv
theorem walks_et {a : Addr} {w : WK} (h : ∀ ι1 H1 S, Gro K ι H ι1 H1 → SR K ι1 H1 mg S → w.chk S → ∃ vs, SqT K H1 a vs ∧ DRs K ι1 H1 w.xs vs) : Walks K mg (IteT K a) (enumW w) ι H := fun ι1 H1 S i g sr c => by
  obtain ⟨vs, q, r⟩ := h ι1 H1 S g sr c
  have hl : (enumW w).xs.length = w.xs.length := by show (numL w.xs).length = _; unfold numL; rw [List.length_mapIdx]
  refine ⟨fun hh => ⟨vs, q, by rw [r.length, ← hl]; exact hh⟩, fun d e => ?_⟩
  obtain ⟨d', e1, rfl⟩ := numL_at e
  obtain ⟨v, hv, dv⟩ := r.get e1
  refine ⟨⟨vs, v, q, hv⟩, fun v' H2 ⟨T, x, ev, hT, eH, hx⟩ => ?_⟩
  have e3 := hx vs q
  rw [hv] at e3
  cases e3
  subst ev; subst eH
  exact pair_new sr hT dv
theorem walks_es {z : Str} : Walks K mg (IteS z) (enumW ⟨sigsOf z, fun _ => True⟩) ι H := fun ι1 H1 S i g sr c => by
  have hl0 : (sigsOf z).length = z.cps.size := by unfold sigsOf; rw [List.length_map, Array.length_toList]
  have hl : (enumW ⟨sigsOf z, fun _ => True⟩).xs.length = z.cps.size := by show (numL (sigsOf z)).length = _; unfold numL; rw [List.length_mapIdx, hl0]
  refine ⟨fun hh => show z.cps.size ≤ i from by rw [← hl]; exact hh, fun d e => ?_⟩
  obtain ⟨d', e1, rfl⟩ := numL_at e
  have hi := (List.getElem?_eq_some_iff.mp e1).1
  refine ⟨show i < z.cps.size from by rw [← hl0]; exact hi, fun v H2 ⟨T, c, ev, hT, eH, hc⟩ => ?_⟩
  have e3 : (sigsOf z)[i]? = some (sigOf c) := by
    unfold sigsOf
    rw [List.getElem?_map, Array.getElem?_toList, hc]; rfl
  rw [e3] at e1
  cases e1
  subst ev; subst eH
  exact pair_new sr hT rfl
theorem si_enum {elts : List Expr} {kk : Nat} {tpos p pos : Pos} {e : Expr} {m : M} (hg : Gl X "enumerate") (hm : X.mg "enumerate" = none) (he : SE X e m) (hs : starEach [e] X.env = (false, eval e X.env) :: starEach [] X.env) :
    SI X (.Tuple elts kk tpos) (.Call (.Name "enumerate" p) [e] [] pos) (iEnumM m) := by
  refine ⟨fun pins s σ H R I h => ?_⟩
  obtain ⟨ι, st, S, sr, nr, h⟩ := h
  have step : RQ X.K X.mg ι H (m st S) (fun x H1 => (∃ a, x = .ref a ∧ (∃ xs, SqL X.K H1 a xs) ∧ R (Ite X.K a) H1) ∨ (∃ a, x = .ref a ∧ (∃ xs, SqT X.K H1 a xs) ∧ R (IteT X.K a) H1) ∨ ∃ z, x = .str z ∧ R (IteS z) H1) := by
    unfold iEnumM at h
    cases q : m st S with
    | no => rw [q] at h; exact h.no.elim
    | ok x S1 =>
      rw [q] at h
      refine RQ.ok fun ι1 H1 v g1 sr1 xr => ?_
      have h1 : RI X.K X.mg ι H ((walkX x S1).bind fun w S2 => .ok (enumW w) S2) R := h
      cases x with
      | tl ds =>
        obtain ⟨w, S2, e, k⟩ := h1
        cases e
        obtain ⟨a, vs, rfl, h0, ha, hn, r⟩ := xr
        exact .inl ⟨a, rfl, ⟨vs, SqL.of ha⟩, k ι1 H1 _ g1 sr1 trivial (walks_el (w := ⟨ds, fun _ => True⟩) fun ι2 H2 S g2 sr2 _ => ⟨vs, SqL.of (g2.keep a _ ha hn).1, r.mono g2.wk⟩)⟩
      | d d =>
        cases d with
        | tup ds =>
          obtain ⟨w, S2, e, k⟩ := h1
          cases e
          obtain ⟨a, vs, rfl, ha, r⟩ := DR.tup (show DR X.K ι1 H1 (.tup ds) v from xr)
          exact .inr (.inl ⟨a, rfl, ⟨vs, SqT.of ha⟩, k ι1 H1 _ g1 sr1 trivial (walks_et (w := ⟨ds, fun _ => True⟩) fun ι2 H2 S g2 sr2 _ => ⟨vs, SqT.of (g2.tup a _ ha), r.mono g2.wk⟩)⟩)
        | kt ds =>
          obtain ⟨w, S2, e, k⟩ := h1
          cases e
          obtain ⟨a, vs, rfl, ha, r⟩ := DR.kt (show DR X.K ι1 H1 (.kt ds) v from xr)
          exact .inr (.inl ⟨a, rfl, ⟨vs, ha H1⟩, k ι1 H1 _ g1 sr1 trivial (walks_et (w := ⟨ds, fun _ => True⟩) fun ι2 H2 S g2 sr2 _ => ⟨vs, ha H2, r.mono g2.wk⟩)⟩)
        | str z =>
          obtain ⟨w, S2, e, k⟩ := h1
          cases e
          cases DR.str (show DR X.K ι1 H1 (.str z) v from xr)
          exact .inr (.inr ⟨z, rfl, k ι1 H1 _ g1 sr1 trivial walks_es⟩)
        | ref n =>
          have h2 : RI X.K X.mg ι H ((match listAt S1 n with | some ds => (.ok ⟨ds, fun S' => listAt S' n = some ds⟩ S1 : Ev.R WK) | none => .no).bind fun w S2 => .ok (enumW w) S2) R := h1
          cases e : listAt S1 n with
          | none => rw [e] at h2; exact (RI.no h2).elim
          | some ds =>
            rw [e] at h2
            obtain ⟨w, S2, e', k⟩ := h2
            cases e'
            obtain ⟨a, rfl, ia⟩ := DR.ref (show DR X.K ι1 H1 (.ref n) v from xr)
            obtain ⟨vs, qs, r⟩ := sr1.list e ia
            exact .inl ⟨a, rfl, ⟨vs, qs⟩, k ι1 H1 _ g1 sr1 e (walks_el (w := ⟨ds, fun S' => listAt S' n = some ds⟩) fun ι2 H2 S g2 sr2 c => sr2.list c (g2.wk.get ia))⟩
        | _ => exact (RI.no h1).elim
  refine Call_ (ld_blt I hg hm boot_enumerate (PyProof.Rows.callWith_type1 (thn ((pa_cons he pa_nil hs).run pos pins s σ H (fun xs H1 => ∃ x, xs = [x] ∧ ((∃ a, x = .ref a ∧ (∃ xs, SqL X.K H1 a xs) ∧ R (Ite X.K a) H1) ∨ (∃ a, x = .ref a ∧ (∃ xs, SqT X.K H1 a xs) ∧ R (IteT X.K a) H1) ∨ ∃ z, x = .str z ∧ R (IteS z) H1)) I
    ⟨ι, st, S, sr, nr, step.imp fun v H1 q => ⟨v, rfl, q⟩⟩) fun us s1 ⟨vs, H1, I1, r1, q1⟩ => ?_) hs rfl))
  obtain ⟨x, rfl, q1⟩ := q1
  obtain ⟨u, rfl, r2⟩ := vals1 r1
  rcases q1 with ⟨a, ex, ⟨xs, hq⟩, q⟩ | ⟨a, ex, ⟨xs, hq⟩, q⟩ | ⟨z, ex, q⟩
  · subst ex
    cases r2
    obtain ⟨its, rv, p', hz⟩ := I1.list hq
    refine call_enumerate_list p'.isList ?_
    intro h' he hit hsz hk
    refine wpAny_pyIter_enum he ?_
    have I2 : Inv X pins σ H1 { s1 with heap := h' } := I1.kept (t' := s1.toks) hk
    refine ⟨s1.heap.objs.size + 1, [s1.heap.objs.size + 1, s1.heap.objs.size], _, _, H1, rfl, I2, turn_enum a (s1.heap.objs.size + 1) s1.heap.objs.size, ⟨⟨.none, he⟩, hit, Nat.succ_ne_self _⟩, fun b hb => ?_, q⟩
    have e' : b = s1.heap.objs.size + 1 ∨ b = s1.heap.objs.size := by simpa using hb
    have hle : s1.heap.objs.size ≤ b := by
      rcases e' with z | z
      · rw [z]; exact Nat.le_add_right _ _
      · rw [z]; exact Nat.le_refl _
    exact I1.fpOk hle (I1.hok.fresh hle)
  · subst ex
    cases r2
    obtain ⟨its, rv, p', hz⟩ := I1.tuple hq
    refine ev_call_enumerate_tuple (show s1.heap.IsTuple a its.toArray from p') ?_
    intro h' he hit hsz hk
    refine wpAny_pyIter_enum he ?_
    have I2 : Inv X pins σ H1 { s1 with heap := h' } := I1.kept (t' := s1.toks) hk
    refine ⟨s1.heap.objs.size + 1, [s1.heap.objs.size + 1, s1.heap.objs.size], _, _, H1, rfl, I2, turn_enumT a (s1.heap.objs.size + 1) s1.heap.objs.size, ⟨⟨.none, he⟩, hit, Nat.succ_ne_self _⟩, fun b hb => ?_, q⟩
    have e' : b = s1.heap.objs.size + 1 ∨ b = s1.heap.objs.size := by simpa using hb
    have hle : s1.heap.objs.size ≤ b := by
      rcases e' with z | z
      · rw [z]; exact Nat.le_add_right _ _
      · rw [z]; exact Nat.le_refl _
    exact I1.fpOk hle (I1.hok.fresh hle)
  · subst ex
    obtain ⟨t, rfl⟩ := r2
    refine call_enumerate_str ?_
    intro h' he hit hsz hk
    refine wpAny_pyIter_enum he ?_
    have I2 : Inv X pins σ H1 { s1 with heap := h' } := I1.kept (t' := s1.toks) hk
    refine ⟨s1.heap.objs.size + 1, [s1.heap.objs.size + 1, s1.heap.objs.size], _, _, H1, rfl, I2, turn_enumS z t (s1.heap.objs.size + 1) s1.heap.objs.size, ⟨⟨.none, he⟩, hit, Nat.succ_ne_self _, Nat.zero_le _⟩, fun b hb => ?_, q⟩
    have e' : b = s1.heap.objs.size + 1 ∨ b = s1.heap.objs.size := by simpa using hb
    have hle : s1.heap.objs.size ≤ b := by
      rcases e' with z | z
      · rw [z]; exact Nat.le_add_right _ _
      · rw [z]; exact Nat.le_refl _
    exact I1.fpOk hle (I1.hok.fresh hle)
end
end Ev
/-! EvL: fields, calls of defs, instances, a dict walked -/
namespace Ev
open PySem L2 PyProof.Rows

/-- the defs as functions on values -/
abbrev Orc := Str → List D → Sto → R XR
def eCall (f : List D → Sto → R XR) (as : MA) : M := fun s S => (as s S).bind fun ds S1 => f ds S1
/-- the values of keywords, in the parameters' order -/
def permL {α : Type} (perm : List Nat) (ws : List α) : List α := perm.filterMap fun i => ws[i]?
def eCallK (n : Nat) (perm : List Nat) (f : List D → Sto → R XR) (as : MA) : M := fun s S => (as s S).bind fun ds S1 => if ds.length = n then f (permL perm ds) S1 else .no
/-- e.f of an instance; ok: the classes that have it as a field -/
def fldD (f : Str) (ok : Str → Bool) (d : D) (S : Sto) : R XR := match d with
  | .ref n => match S[n]? with
    | some (.ins c fs) => if ok c = true then optR (fs.lookup f) S else .no
    | _ => .no
  | _ => .no
def putFD (f : Str) (v : D) : List (Str × D) → List (Str × D)
  | [] => [(f, v)]
  | (g, u) :: r => if g = f then (g, v) :: r else (g, u) :: putFD f v r
def setFld (f : Str) (ok : Str → Bool) (o d : D) (S : Sto) : R Unit := match o with
  | .ref n => match S[n]? with
    | some (.ins c fs) => if ok c = true ∧ fs.length < 1000 then .ok () (S.set n (.ins c (putFD f d fs))) else .no
    | _ => .no
  | _ => .no
def sFldA (f : Str) (ok : Str → Bool) (o v : M) : MS := fun s S => (force (v s S)).bind fun d S1 => (force (o s S1)).bind fun od S2 => (setFld f ok od d S2).bind fun _ S3 => .ok (.nx s) S3

section
variable {K : PySem.W.Frag} {ι ι' ι0 : List Addr} {H H' H0 : Hp} {mg : Str → Option Value} {X : Cx}
/-- a field of a class -/
def FldOk (X : Cx) (f : Str) (ok : Str → Bool) : Prop := ∀ c, ok c = true → ∀ C, X.mg c = some (.ref C) → Cls X.K C ∧ NoAttr X.K C f
theorem lookup_rel {f : Str} : ∀ {fs : List (Str × D)} {gs : List (Str × V)} {d : D}, Paired (fun (p : Str × D) (q : Str × V) => p.1 = q.1 ∧ DR K ι H p.2 q.2) fs gs → fs.lookup f = some d → ∃ v, gs.lookup f = some v ∧ DR K ι H d v
  | _, _, d, .nil, h => by simp at h
  | (x, e) :: fs, (y, w) :: gs, d, .cons r t, h => by
    obtain ⟨e1, r⟩ := r
    replace e1 : x = y := e1
    subst e1
    rw [List.lookup_cons] at h ⊢
    cases hb : f == x with
    | true => rw [hb] at h; cases h; exact ⟨w, rfl, r⟩
    | false => rw [hb] at h; exact lookup_rel t h
theorem se_fld {e : Expr} {f : Str} {pos : Pos} {m : M} {ok : Str → Bool} (hf : FldOk X f ok) (he : SE X e m) (hb : attributeBase e f X.env (eval e X.env) = eval e X.env) : SE X (.Attribute e f pos) (eUn (fldD f ok) m) :=
  pe_imp (pe_fld he hb) fun σ H Q ⟨ι, s, S, sr, nr, h⟩ => ⟨ι, s, S, sr, nr, bindD h fun d S1 ι1 H1 v g1 sr1 dr1 h1 => by
    unfold fldD at h1
    split at h1
    · rename_i n
      split at h1
      · rename_i c fs e
        split at h1
        · rename_i hc
          obtain ⟨x, ex, h1⟩ := optR_use h1
          obtain ⟨a, rfl, ia⟩ := dr1.ref
          obtain ⟨C, dx, gs, hm, ha, p⟩ := sr1.obj n _ a e ia
          obtain ⟨cl, na⟩ := hf c hc C hm
          obtain ⟨w, hw, dw⟩ := lookup_rel p ex
          exact ⟨a, C, dx, gs, w, rfl, ha, cl, na, hw, h1.here sr1 dw⟩
        · exact h1.no.elim
      · exact h1.no.elim
    · exact h1.no.elim⟩
theorem putF_rel {f : Str} {d : D} {v : V} (dv : DR K ι H d v) : ∀ {fs : List (Str × D)} {gs : List (Str × V)}, Paired (fun (p : Str × D) (q : Str × V) => p.1 = q.1 ∧ DR K ι H p.2 q.2) fs gs → Paired (fun (p : Str × D) (q : Str × V) => p.1 = q.1 ∧ DR K ι H p.2 q.2) (putFD f d fs) (putF f v gs)
  | _, _, .nil => .cons ⟨rfl, dv⟩ .nil
  | (x, e) :: fs, (y, w) :: gs, .cons r t => by
    obtain ⟨e1, r⟩ := r
    replace e1 : x = y := e1
    subst e1
    show Paired _ (if x = f then (x, d) :: fs else (x, e) :: putFD f d fs) (if x = f then (x, v) :: gs else (x, w) :: putF f v gs)
    by_cases hx : x = f
    · rw [if_pos hx, if_pos hx]; exact .cons ⟨rfl, dv⟩ t
    · rw [if_neg hx, if_neg hx]; exact .cons ⟨rfl, r⟩ (putF_rel dv t)
theorem ss_fld {o value : Expr} {f : Str} {pos pos' : Pos} {mo mv : M} {ok : Str → Bool} (hf : FldOk X f ok) (ho : SE X o mo) (hv : SE X value mv) (hs : swapsWith value (some (.Attribute o f pos')) pos.line X.env = pure false) : SS X (.Assign [.Attribute o f pos'] value pos) (sFldA f ok mo mv) :=
  ps_imp (ps_fld ho hv hs) fun D σ H ⟨ι, s, S, sr, nr, h⟩ => ⟨ι, s, S, sr, nr, bindDS h fun d S1 ι1 H1 v g1 sr1 dr1 h1 => ⟨ι1, s, S1, sr1, nr.mono g1.wk, bindDS h1 fun od S2 ι2 H2 ov g2 sr2 dr2 h2 => by
    cases q : setFld f ok od d S2 with
    | no => rw [q] at h2; exact (show RS X.K X.mg ι2 H2 .no D from h2).no.elim
    | ok u S3 =>
      rw [q] at h2
      unfold setFld at q
      split at q
      · rename_i n
        split at q
        · rename_i c fs e
          split at q
          · rename_i hc
            cases q
            obtain ⟨a, rfl, ia⟩ := dr2.ref
            obtain ⟨C, dx, gs, hm, ha, p⟩ := sr2.obj n _ a e ia
            obtain ⟨cl, na⟩ := hf c hc.1 C hm
            have g3 : Gro X.K ι2 H2 ι2 (upd H2 a (.ins C dx (putF f v gs))) := Gro.put sr2 ia (by rw [ha]; exact True.intro)
            refine ⟨a, C, dx, gs, rfl, ha, cl, na, by rw [← paired_len p]; exact hc.2, ?_⟩
            have h3 : RS X.K X.mg ι2 H2 (.ok (.nx s) (S2.set n (.ins c (putFD f d fs)))) D := h2
            obtain ⟨f0, S4, e4, k⟩ := h3
            cases e4
            refine k ι2 _ σ g3 (sr2.put ia g3 ⟨C, dx, _, hm, upd_same, ?_⟩) (((nr.mono g1.wk).mono g2.wk).mono g3.wk)
            exact Paired.mono' (putF_rel (dr1.mono g2.wk) p) fun _ _ q => ⟨q.1, q.2.mono g3.wk⟩
          · cases q
        · cases q
      · cases q⟩⟩

/-! ### calls of defs -/
/-- what a def promises: its function on values -/
def spF (K : PySem.W.Frag) (mg : Str → Option Value) (np : Nat) (f : List D → Sto → R XR) : Sp := fun vs H Q _ => ∃ ι ds S, SR K ι H mg S ∧ DRs K ι H ds vs ∧ ds.length = np ∧ RQ K mg ι H (f ds S) Q
theorem se_call {x : Str} {k : Nat} {fa : Addr} {fd : FuncData} {ps : List Str} {f : List D → Sto → R XR} {p pos : Pos} {e : Expr} {es : List Expr} {ma : MA} (F : FnOk X.prog X.w X.K X.mg X.base CX0 k fa fd ps (spF X.K X.mg ps.length f)) (hlen : ∀ ds S, ds.length ≠ ps.length → f ds S = .no) (hr : Room k X.A) (hg : Gl X x) (hm : X.mg x = some (.ref fa)) (hk : PySem.W.keepIn X.K (.ref fa) = true) (hb : Binds X.K fd ps [])
    (ha : SA X (e :: es) ma) (hdb : (x == ("__debug__" : Str)) = false) (he : starEach (e :: es) X.env = (false, eval e X.env) :: starEach es X.env) (hpl : (backTo pos (starEach es X.env)).any (·.1) = false) : SE X (.Call (.Name x p) (e :: es) [] pos) (eCall f ma) :=
  pe_imp (pe_call F hr hg hm hk hb .nil pass0 ha hdb he hpl) fun σ H Q ⟨ι, s, S, sr, nr, h⟩ => ⟨ι, s, S, sr, nr, bindAQ h fun ds S1 ι1 H1 vs g1 sr1 dr1 h1 => by
    refine ⟨ι1, ds, S1, sr1, by rw [List.append_nil]; exact dr1, ?_, h1⟩
    rcases Nat.decEq ds.length ps.length with z | z
    · rw [hlen ds S1 z] at h1; exact h1.no.elim
    · exact z⟩
theorem se_call0 {x : Str} {k : Nat} {fa : Addr} {fd : FuncData} {ps : List Str} {f : List D → Sto → R XR} {p pos : Pos} (F : FnOk X.prog X.w X.K X.mg X.base CX0 k fa fd ps (spF X.K X.mg ps.length f)) (hlen : ∀ ds S, ds.length ≠ ps.length → f ds S = .no) (hr : Room k X.A) (hg : Gl X x) (hm : X.mg x = some (.ref fa)) (hk : PySem.W.keepIn X.K (.ref fa) = true) (hb : Binds X.K fd ps [])
    (hdb : (x == ("__debug__" : Str)) = false) : SE X (.Call (.Name x p) [] [] pos) (eCall f aNil) :=
  pe_imp (pe_call0 F hr hg hm hk hb .nil pass0 hdb) fun σ H Q ⟨ι, s, S, sr, nr, h⟩ => by
    have h1 : RQ X.K X.mg ι H (f [] S) Q := h
    refine ⟨ι, [], S, sr, DRs.nil, ?_, h1⟩
    rcases Nat.decEq ([] : List Ev.D).length ps.length with z | z
    · rw [hlen [] S z] at h1; exact h1.no.elim
    · exact z
theorem permL_vals : ∀ {perm : List Nat} {vs : List V} {us : List Value}, Vals vs us → Vals (permL perm vs) (permL perm us)
  | [], _, _, _ => .nil
  | i :: perm, vs, us, r => by
    unfold permL
    rw [List.filterMap_cons, List.filterMap_cons]
    cases h : vs[i]? with
    | none =>
      rw [r.none_of h]
      exact permL_vals r
    | some v =>
      obtain ⟨u, hu, ru⟩ := r.get h
      rw [hu]
      exact .cons ru (permL_vals r)
theorem permL_rel {perm : List Nat} {ds : List D} {vs : List V} (r : DRs K ι H ds vs) : DRs K ι H (permL perm ds) (permL perm vs) := by
  induction perm with
  | nil => exact DRs.nil
  | cons i perm ih =>
    unfold permL
    rw [List.filterMap_cons, List.filterMap_cons]
    cases h : ds[i]? with
    | none =>
      have : vs[i]? = none := List.getElem?_eq_none_iff.mpr (by rw [r.length]; exact List.getElem?_eq_none_iff.mp h)
      rw [this]
      exact ih
    | some d =>
      obtain ⟨v, hv, dv⟩ := r.get h
      rw [hv]
      exact DRs.cons dv ih
def gPerm {α : Type} (n : Nat) (perm : List Nat) (us ws : List α) : List α := if us.length = 0 ∧ ws.length = n then permL perm ws else []
theorem kbinds_perm {fd : FuncData} {ps ks : List Str} {perm : List Nat} (hp : ps ≠ []) (h : ∀ ws : List Value, ws.length = ks.length → bindArgs fd ⟨[], ks.zip ws⟩ = pure (ps.zip (permL perm ws))) :
    KBinds K fd ps ks (gPerm ks.length perm) (gPerm ks.length perm) where
  to := fun s us ws _ hl => by
    unfold gPerm at hl ⊢
    split at hl
    · rename_i hc
      have e : us = [] := List.eq_nil_of_length_eq_zero hc.1
      rw [if_pos hc, e]
      exact .of_eq (h ws hc.2)
    · exact absurd (List.eq_nil_of_length_eq_zero hl.symm) hp
  rel := fun {vs us zs ws} r rz => by
    unfold gPerm
    rw [← r.length, ← rz.length]
    split
    · exact permL_vals rz
    · exact .nil
theorem se_callK {x : Str} {k : Nat} {fa : Addr} {fd : FuncData} {ps ks : List Str} {perm : List Nat} {f : List D → Sto → R XR} {p pos : Pos} {kws : List Keyword} {ma : MA} (F : FnOk X.prog X.w X.K X.mg X.base CX0 k fa fd ps (spF X.K X.mg ps.length f)) (hlen : ∀ ds S, ds.length ≠ ps.length → f ds S = .no) (hr : Room k X.A) (hg : Gl X x) (hm : X.mg x = some (.ref fa)) (hk : PySem.W.keepIn X.K (.ref fa) = true)
    (hb : KBinds X.K fd ps ks (gPerm ks.length perm) (gPerm ks.length perm)) (hkw : PK X kws (tMA X.K X.mg ma)) (hall : (backToKw pos (keywordEach kws X.env)).all (·.1.isSome) = true) (hks : (backToKw pos (keywordEach kws X.env)).filterMap (·.1) = ks)
    (hdb : (x == ("__debug__" : Str)) = false) (hpl : ((backTo pos (starEach [] X.env)).any (·.1) || (backToKw pos (keywordEach kws X.env)).any (·.1.isNone)) = false) : SE X (.Call (.Name x p) [] kws pos) (eCallK ks.length perm f ma) := by
  refine ⟨fun pins s σ H Q I h => ?_⟩
  obtain ⟨ι, st, S, sr, nr, h⟩ := h
  refine wpAny_Call_Name_kw (ld_glob I hg hm ?_ hdb)
  refine PySem.W.callWith_KW0 (h₀ := X.base) I.ok.mod.kin hk hall ?_ hpl
  refine thn (hkw.run pos pins s σ H (fun zs H1 => spF X.K X.mg ps.length f (gPerm ks.length perm [] zs) H1 Q E0) I ⟨ι, st, S, sr, nr, bindAQ h fun ds S1 ι1 H1 vs g1 sr1 dr1 h1 => ?_⟩) fun ws s2 ⟨zs, H2, I2, rz, q2⟩ => ⟨I2.kIn, ?_⟩
  · split at h1
    · rename_i hl
      have e : gPerm ks.length perm [] vs = permL perm vs := by
        unfold gPerm
        rw [if_pos ⟨rfl, by rw [dr1.length]; exact hl⟩]
      rw [e]
      refine ⟨ι1, permL perm ds, S1, sr1, permL_rel dr1, ?_, h1⟩
      rcases Nat.decEq (permL perm ds).length ps.length with z | z
      · rw [hlen _ S1 z] at h1; exact h1.no.elim
      · exact z
    · exact h1.no.elim
  · rw [hks]
    exact run_fnk (us := []) (vs := []) F hr hb pass0 I2 .nil rz q2
end
end Ev
/-! EvM: new instances, dicts that are walked, dict displays, setdefault, list(range(..)), name op= e, a module's names -/
namespace Ev
open PySem L2 PyProof.Rows

/-! ### combinators -/
/-- C(e, ..): f is __init__ -/
def eMake (c : Str) (f : List D → Sto → R XR) (as : MA) : M := fun s S => (as s S).bind fun ds S1 => (f (.ref S1.length :: ds) (S1 ++ [.ins c []])).bind fun x S2 => match x with
  | .d .non => .ok (.d (.ref S1.length)) S2
  | _ => .no
def eMakeK (c : Str) (n : Nat) (perm : List Nat) (f : List D → Sto → R XR) (as : MA) : M := fun s S => (as s S).bind fun ds S1 => if ds.length = n then (f (.ref S1.length :: permL perm ds) (S1 ++ [.ins c []])).bind fun x S2 => match x with
  | .d .non => .ok (.d (.ref S1.length)) S2
  | _ => .no
  else .no
/-- the keys of a locked dict -/
def iKeysM (m : M) : MI := fun s S => (force (m s S)).bind fun d S1 => match d with
  | .ref n => match S1[n]? with
    | some (.rod kvs) => .ok ⟨kvs.map (·.1), fun S' => S'[n]? = some (.rod kvs)⟩ S1
    | _ => .no
  | _ => .no
/-- b runs while the dict that m tells is locked -/
noncomputable def sLock (m : M) (b : MS) : MS := fun s S => match m s S with
  | .ok (.d (.ref n)) _ => match S[n]? with
    | some (.dct kvs) => (b s (S.set n (.rod kvs))).bind fun f S2 => guardS (S2[n]? = some (.rod kvs)) (.ok f (S2.set n (.dct kvs)))
    | _ => .no
  | _ => .no
def eDctNew : M := fun _ S => .ok (.d (.ref S.length)) (S ++ [.dct []])
abbrev MP := Env → Sto → R (List (D × D))
def pNil : MP := fun _ S => .ok [] S
def pCons (k v : M) (r : MP) : MP := fun s S => (force (k s S)).bind fun d S1 => (force (v s S1)).bind fun e S2 => (r s S2).bind fun ps S3 => .ok ((d, e) :: ps) S3
def mergeD : List (D × D) → List (D × D) → Option (List (D × D))
  | kvs, [] => some kvs
  | kvs, (k, v) :: r => match keyD k with
    | some q => mergeD (Ev.putK kvs (.inl q) k v) r
    | none => none
/-- {k: v, ..}, keys ints and texts -/
def eDisp (ps : MP) : M := fun s S => (ps s S).bind fun l S1 => if l.length ≤ 15 then match mergeD [] l with
  | some kvs => .ok (.d (.ref S1.length)) (S1 ++ [.dct kvs])
  | none => .no
  else .no
def eLstRg (r : MI) : M := fun s S => (r s S).bind fun w S1 => if w.xs.length ≤ 16777216 then .ok (.tl w.xs) S1 else .no
def setdD (o k x : D) (S : Sto) : R XR := match o with
  | .ref n => match S[n]? with
    | some (.dct kvs) => match keyD k with
      | some q => if kindOk kvs (.inl q) = true ∧ kvs.isEmpty = false ∧ kvs.length < BIG then match findK kvs (.inl q) with
          | some v => .ok (.d v) S
          | none => .ok (.d x) (S.set n (.dct (Ev.putK kvs (.inl q) k x)))
        else .no
      | none => .no
    | _ => .no
  | _ => .no
def eSetd (o k x : M) : M := fun s S => (force (o s S)).bind fun d S1 => match d with
  | .ref n => match S1[n]? with
    | some (.dct _) => (force (k s S1)).bind fun e S2 => (force (x s S2)).bind fun f S3 => setdD d e f S3
    | _ => .no
  | _ => .no

theorem R.bind_assoc {α β γ : Type} (r : R α) (f : α → Sto → R β) (g : β → Sto → R γ) : (r.bind f).bind g = r.bind fun a S => (f a S).bind g := by cases r <;> rfl
section
variable {K : PySem.W.Frag} {ι ι' ι0 : List Addr} {H H' H0 : Hp} {mg : Str → Option Value} {X : Cx}
/-! ### a module's names -/
theorem se_glob {x : Str} {v : V} {u : Value} {d : D} {pos : Pos} (hg : Gl X x) (hm : X.mg x = some u) (r : RelV v u) (k : ∀ ι H, DR X.K ι H d v) (hd : (x == ("__debug__" : Str)) = false) : SE X (.Name x pos) (eC d) := se_c (pe_glob hg hm r hd) k

/-! ### new instances -/
theorem RQ.made {c : Str} {C x dx : Addr} {S : Sto} {Q : VK} {f : Sto → R XR} (sr : SR K ι H mg S) (hm : mg c = some (.ref C)) (hx : H x = none) (hd : H dx = none) (hn : dx ≠ x)
    (h : RQ K mg ι H ((f (S ++ [.ins c []])).bind fun y S2 => match y with | .d .non => .ok (.d (.ref S.length)) S2 | _ => .no) Q) :
    ∃ ι2, Gro K ι H ι2 (upd (upd H dx (.own x)) x (.ins C dx [])) ∧ SR K ι2 (upd (upd H dx (.own x)) x (.ins C dx [])) mg (S ++ [.ins c []]) ∧ DR K ι2 (upd (upd H dx (.own x)) x (.ins C dx [])) (.ref S.length) (.ref x) ∧
      RQ K mg ι2 (upd (upd H dx (.own x)) x (.ins C dx [])) (f (S ++ [.ins c []])) (fun v H2 => v = .non ∧ Q (.ref x) H2) := by
  have g1 : Gro K ι H ι (upd H dx (.own x)) := Gro.laid hd (sr.fresh hd)
  have sr1 : SR K ι (upd H dx (.own x)) mg S := sr.grow g1 fun a _ u e => by rw [upd_ne (ne_of_none e hd)]; exact e
  have hx1 : upd H dx (.own x) x = none := by rw [upd_ne (Ne.symm hn)]; exact hx
  have g2 : Gro K ι (upd H dx (.own x)) ι (upd (upd H dx (.own x)) x (.ins C dx [])) := Gro.laid hx1 (sr1.fresh hx1)
  have sr2 : SR K ι (upd (upd H dx (.own x)) x (.ins C dx [])) mg S := sr1.grow g2 fun a _ u e => by rw [upd_ne (ne_of_none e hx1)]; exact e
  obtain ⟨g3, sr3, dr3⟩ := number (o := .ins c []) (g1.trans g2) sr2 hx (sr.fresh hx) ⟨C, dx, [], hm, upd_same, .nil⟩
  refine ⟨ι ++ [x], g3, sr3, dr3, ?_⟩
  cases q : f (S ++ [.ins c []]) with
  | no => rw [q] at h; exact h.no.elim
  | ok y S2 =>
    rw [q] at h
    refine RQ.ok fun ι' H' v g sr' xr => ?_
    cases y with
    | tl ds => exact (show RQ K mg ι H .no Q from h).no.elim
    | d d =>
      cases d with
      | non => exact ⟨DR.non (show DR K ι' H' .non v from xr), (show RQ K mg ι H (.ok (.d (.ref S.length)) S2) Q from h).use (g3.trans g) sr' (show DR K ι' H' (.ref S.length) (.ref x) from dr3.mono g.wk)⟩
      | _ => exact (show RQ K mg ι H .no Q from h).no.elim
theorem se_make {x : Str} {k : Nat} {C fa : Addr} {fd : FuncData} {ps : List Str} {f : List D → Sto → R XR} {p pos : Pos} {e : Expr} {es : List Expr} {ma : MA} (Mk0 : Mk X.K C fa) (F : FnOk X.prog X.w X.K X.mg X.base CX0 k fa fd ps (spF X.K X.mg ps.length f)) (hlen : ∀ ds S, ds.length ≠ ps.length → f ds S = .no) (hr : Room (k + 1) X.A) (hg : Gl X x) (hm : X.mg x = some (.ref C)) (hb : Binds X.K fd ps [])
    (ha : SA X (e :: es) ma) (hdb : (x == ("__debug__" : Str)) = false) (he : starEach (e :: es) X.env = (false, eval e X.env) :: starEach es X.env) (hpl : (backTo pos (starEach es X.env)).any (·.1) = false) : SE X (.Call (.Name x p) (e :: es) [] pos) (eMake x f ma) :=
  pe_imp (pe_make Mk0 F hr hg hm hb .nil pass0 ha hdb he hpl) fun σ H Q ⟨ι, s, S, sr, nr, h⟩ => ⟨ι, s, S, sr, nr, bindAQ h fun ds S1 ι1 H1 vs g1 sr1 dr1 h1 => fun x0 dx hx hd hn => by
    obtain ⟨ι2, g2, sr2, dr2, h2⟩ := RQ.made (f := fun S => f (.ref S1.length :: ds) S) sr1 hm hx hd hn h1
    refine ⟨ι2, .ref S1.length :: ds, _, sr2, by rw [List.append_nil]; exact DRs.cons dr2 (dr1.mono g2.wk), ?_, h2⟩
    rcases Nat.decEq (D.ref S1.length :: ds).length ps.length with z | z
    · rw [hlen _ _ z] at h2; exact h2.no.elim
    · exact z⟩
theorem se_makeK {x : Str} {k : Nat} {C fa : Addr} {fd : FuncData} {ps ks : List Str} {perm : List Nat} {f : List D → Sto → R XR} {p pos : Pos} {kws : List Keyword} {ma : MA} (Mk0 : Mk X.K C fa) (F : FnOk X.prog X.w X.K X.mg X.base CX0 k fa fd ps (spF X.K X.mg ps.length f)) (hlen : ∀ ds S, ds.length ≠ ps.length → f ds S = .no) (hr : Room (k + 1) X.A) (hg : Gl X x) (hm : X.mg x = some (.ref C))
    (hb : KBn X.K fd ps 1 ks (fun us ws => us ++ permL perm ws) (fun us ws => us ++ permL perm ws)) (hkw : PK X kws (tMA X.K X.mg ma)) (hall : (backToKw pos (keywordEach kws X.env)).all (·.1.isSome) = true) (hks : (backToKw pos (keywordEach kws X.env)).filterMap (·.1) = ks)
    (hdb : (x == ("__debug__" : Str)) = false) (hpl : ((backTo pos (starEach [] X.env)).any (·.1) || (backToKw pos (keywordEach kws X.env)).any (·.1.isNone)) = false) : SE X (.Call (.Name x p) [] kws pos) (eMakeK x ks.length perm f ma) :=
  pe_imp (pe_makeK0 Mk0 F hr hg hm hb pass0 hkw hall hks hdb hpl) fun σ H Q ⟨ι, s, S, sr, nr, h⟩ => by
    show tMA X.K X.mg ma σ H _
    refine ⟨ι, s, S, sr, nr, bindAQ h fun ds S1 ι1 H1 vs g1 sr1 dr1 h1 => ?_⟩
    split at h1
    · rename_i hl
      refine ⟨rfl, by rw [dr1.length]; exact hl, fun x0 dx hx hd hn => ?_⟩
      obtain ⟨ι2, g2, sr2, dr2, h2⟩ := RQ.made (f := fun S => f (.ref S1.length :: permL perm ds) S) sr1 hm hx hd hn h1
      refine ⟨ι2, .ref S1.length :: permL perm ds, _, sr2, DRs.cons dr2 (permL_rel (dr1.mono g2.wk)), ?_, h2⟩
      rcases Nat.decEq (D.ref S1.length :: permL perm ds).length ps.length with z | z
      · rw [hlen _ _ z] at h2; exact h2.no.elim
      · exact z
    · exact h1.no.elim
theorem kbn_perm {fd : FuncData} {ps ks : List Str} {perm : List Nat} (h : ∀ (us ws : List Value), us.length = 1 → ws.length = ks.length → bindArgs fd ⟨us, ks.zip ws⟩ = pure (ps.zip (us ++ permL perm ws))) :
    KBn K fd ps 1 ks (fun us ws => us ++ permL perm ws) (fun us ws => us ++ permL perm ws) where
  to := fun s us ws _ hl hw => .of_eq (h us ws hl hw)
  rel := fun r rz => r.append (permL_vals rz)

/-! ### a dict is walked -/
theorem keys_back {v : D} : ∀ {ds : List D} {ks : List Key}, keysD ds = some ks → DRs K ι H ds (ks.map kV)
  | [], ks, h => by cases h; exact DRs.nil
  | d :: ds, ks, h => by
    have h' : (match keyD d, keysD ds with | some k, some ks => some (k :: ks) | _, _ => none) = some ks := h
    cases h1 : keyD d with
    | none => rw [h1] at h'; cases h'
    | some k =>
      cases h2 : keysD ds with
      | none => rw [h1, h2] at h'; cases h'
      | some ks' =>
        rw [h1, h2] at h'; cases h'
        exact DRs.cons (keyD_DR h1) (keys_back (v := v) h2)
where
  keyD_DR {d : D} {k : Key} (h : keyD d = some k) : DR K ι H d (kV k) := by
    cases d with
    | int i => cases h; rfl
    | str x => cases h; rfl
    | _ => cases h
theorem paired_get' {α β : Type} {F : α → β → Prop} : ∀ {l : List α} {m : List β} {i : Nat} {a : α} {b : β}, Paired F l m → l[i]? = some a → m[i]? = some b → F a b
  | _, _, i, a, b, .nil, h, _ => by simp at h
  | _, _, 0, a, b, .cons r _, h, k => by simp at h k; subst h; subst k; exact r
  | _, _, i + 1, a, b, .cons _ t, h, k => paired_get' t (by simpa using h) (by simpa using k)
theorem walks_k {n : Nat} {a : Addr} {o : Obj} {kv : List (Key × V)} {kvs : List (D × D)} (ha : H a = some (.frz o (.dK kv))) (p : Paired (KPl K ι H) kvs kv) : Walks K mg (Itk a o kv) ⟨kvs.map (·.1), fun S' => S'[n]? = some (.rod kvs)⟩ ι H := fun ι1 H1 S i g sr c => by
  have e1 := g.frz a o _ ha
  refine ⟨fun hl => ⟨e1, by rw [← paired_len p]; simpa using hl⟩, fun d hd => ?_⟩
  rw [List.getElem?_map] at hd
  obtain ⟨q, hq, rfl⟩ := Option.map_eq_some_iff.mp hd
  have hi := (List.getElem?_eq_some_iff.mp hq).1
  have hi2 : i < kv.length := by rw [← paired_len p]; exact hi
  refine ⟨⟨e1, hi2⟩, fun v H2 hy => ?_⟩
  obtain ⟨e2, k, w, hk, ev⟩ := hy
  subst e2; subst ev
  have r := paired_get' p hq hk
  exact ⟨Gro.refl, sr, keys_back.keyD_DR r.1⟩
theorem walks_kt {n : Nat} {a : Addr} {o : Obj} {kv : List (List Key × V)} {kvs : List (D × D)} (ha : H a = some (.frz o (.dT kv))) (p : Paired (KPr K ι H) kvs kv) : Walks K mg (Itkt a o kv) ⟨kvs.map (·.1), fun S' => S'[n]? = some (.rod kvs)⟩ ι H := fun ι1 H1 S i g sr c => by
  have e1 := g.frz a o _ ha
  refine ⟨fun hl => ⟨e1, by rw [← paired_len p]; simpa using hl⟩, fun d hd => ?_⟩
  rw [List.getElem?_map] at hd
  obtain ⟨q, hq, rfl⟩ := Option.map_eq_some_iff.mp hd
  have hi := (List.getElem?_eq_some_iff.mp hq).1
  have hi2 : i < kv.length := by rw [← paired_len p]; exact hi
  refine ⟨⟨e1, hi2⟩, fun v H2 hy => ?_⟩
  obtain ⟨e2, k, w, b, hk, ev, hb⟩ := hy
  subst e2; subst ev
  have r := paired_get' p hq hk
  refine ⟨Gro.refl, sr, ?_⟩
  have r1 : keyT q.1 = some k := r.1
  cases hq1 : q.1 with
  | tup ds =>
    rw [hq1] at r1
    unfold DR
    exact ⟨b, k.map kV, rfl, hb, keys_back (v := .non) r1⟩
  | _ => rw [hq1] at r1; cases r1
theorem si_keys {tg e : Expr} {m : M} (he : SE X e m) : SI X tg e (iKeysM m) := pi_imp (pi_keys he) fun σ H R ⟨ι, s, S, sr, nr, h⟩ =>
  ⟨ι, s, S, sr, nr, bindDG (W := fun ι H r => RI X.K X.mg ι H r R) (fun _ _ => RI.no) (fun _ _ _ _ _ h g => h.later g) h fun d S1 ι1 H1 v g1 sr1 dr1 h1 => by
    split at h1
    · rename_i n
      split at h1
      · rename_i kvs e
        obtain ⟨w, S2, e2, k⟩ := h1
        cases e2
        obtain ⟨a, rfl, ia⟩ := dr1.ref
        obtain ⟨od, u, ha, c⟩ := sr1.obj n _ a e ia
        refine ⟨a, od, rfl, ?_⟩
        rcases c with ⟨kv, rfl, p⟩ | ⟨kv, rfl, p⟩
        · exact .inl ⟨kv, ha, k ι1 H1 _ Gro.refl sr1 e (walks_k ha p)⟩
        · exact .inr ⟨kv, ha, k ι1 H1 _ Gro.refl sr1 e (walks_kt ha p)⟩
      · exact h1.no.elim
    · exact h1.no.elim⟩
/-- from a locked world back to the free one -/
theorem freed {n : Nat} {a : Addr} {od : Obj} {u : HO} {S2 : Sto} {kvs : List (D × D)} (ia : ι[n]? = some a) (ha : H a = some u) (mu : Mut (some u)) (c : DcR K ι H kvs u) (g : Gro K ι (upd H a (.frz od u)) ι' H') (sr : SR K ι' H' mg S2) :
    H' a = some (.frz od u) ∧ Wk K ι' H' ι' (upd H' a u) ∧ Gro K ι H ι' (upd H' a u) ∧ SR K ι' (upd H' a u) mg (S2.set n (.dct kvs)) := by
  have f : H' a = some (.frz od u) := g.frz a od u upd_same
  have am : a ∈ ι := List.mem_of_getElem? ia
  have wk : Wk K ι' H' ι' (upd H' a u) := ⟨⟨[], by simp⟩, fun b ts e => by
    rw [upd_ne (fun z => by rw [z, f] at e; cases e)]; exact e⟩
  have gg : Gro K ι H ι' (upd H' a u) := by
    refine ⟨g.pre, fun b ts e => ?_, fun b o e nb => ?_, fun b o e => ?_, fun b o x e => ?_⟩
    · have nb : b ≠ a := fun z => by
        rw [z, ha] at e; cases e; exact mu.elim
      rw [upd_ne nb]
      exact g.tup b ts (by rw [upd_ne nb]; exact e)
    · have nb2 : b ≠ a := fun z => nb (z ▸ am)
      obtain ⟨h1, h2⟩ := g.keep b o (by rw [upd_ne nb2]; exact e) nb
      exact ⟨by rw [upd_ne nb2]; exact h1, h2⟩
    · by_cases nb : b = a
      · exact ⟨u, by rw [nb, upd_same]⟩
      · obtain ⟨o', h1⟩ := g.dom b o (by rw [upd_ne nb]; exact e)
        exact ⟨o', by rw [upd_ne nb]; exact h1⟩
    · have nb : b ≠ a := fun z => by
        rw [z, ha] at e; cases e; exact mu.elim
      rw [upd_ne nb]
      exact g.frz b o x (by rw [upd_ne nb]; exact e)
  refine ⟨f, wk, gg, by rw [List.length_set]; exact sr.len, sr.nd, fun m o b e1 e2 => ?_⟩
  by_cases hm : m = n
  · subst hm
    have hl := (List.getElem?_eq_some_iff.mp e1).1
    rw [List.length_set] at hl
    rw [List.getElem?_set_self hl] at e1
    cases e1
    have : b = a := by
      have e3 := gg.wk.get ia
      rw [e2] at e3
      exact Option.some.inj e3
    subst this
    exact ⟨u, upd_same, c.mono gg.wk⟩
  · rw [List.getElem?_set_ne (Ne.symm hm)] at e1
    refine (sr.obj m o b e1 e2).mono wk fun w q => ?_
    have nb : b ≠ a := fun z => hm (by
      have e3 := gg.wk.get ia
      rw [← z] at e3
      exact (List.getElem?_inj (List.getElem?_eq_some_iff.mp e2).1 sr.nd).mp (e2.trans e3.symm))
    rw [upd_ne nb]; exact q
theorem locked {n : Nat} {a : Addr} {od : Obj} {u : HO} {S : Sto} {kvs : List (D × D)} (ia : ι[n]? = some a) (ha : H a = some u) (mu : Mut (some u)) (c : DcR K ι H kvs u) (sr : SR K ι H mg S) :
    Wk K ι H ι (upd H a (.frz od u)) ∧ SR K ι (upd H a (.frz od u)) mg (S.set n (.rod kvs)) := by
  have wk : Wk K ι H ι (upd H a (.frz od u)) := ⟨⟨[], by simp⟩, fun b ts e => by
    rw [upd_ne (fun z => by rw [z, ha] at e; cases e; exact mu.elim)]; exact e⟩
  refine ⟨wk, by rw [List.length_set]; exact sr.len, sr.nd, fun m o b e1 e2 => ?_⟩
  by_cases hm : m = n
  · subst hm
    have hl := (List.getElem?_eq_some_iff.mp e1).1
    rw [List.length_set] at hl
    rw [List.getElem?_set_self hl] at e1
    cases e1
    have : b = a := by
      rw [e2] at ia
      exact Option.some.inj ia
    subst this
    exact ⟨od, u, upd_same, c.mono wk⟩
  · rw [List.getElem?_set_ne (Ne.symm hm)] at e1
    refine (sr.obj m o b e1 e2).mono wk fun w q => ?_
    have nb : b ≠ a := fun z => hm (by
      rw [← z] at ia
      exact (List.getElem?_inj (List.getElem?_eq_some_iff.mp e2).1 sr.nd).mp (e2.trans ia.symm))
    rw [upd_ne nb]; exact q
theorem ss_lock {st : Stmt} {m : M} {b : MS} (h : SS X st b) : SS X st (sLock m b) := ps_imp (ps_lock h) fun D σ H ⟨ι, s, S, sr, nr, h⟩ => by
  unfold sLock at h
  split at h
  · rename_i n S0 e0
    split at h
    · rename_i kvs e
      have ia : ∃ a, ι[n]? = some a := by
        have hl := (List.getElem?_eq_some_iff.mp e).1
        rw [← sr.len] at hl
        exact ⟨_, List.getElem?_eq_getElem hl⟩
      obtain ⟨a, ia⟩ := ia
      obtain ⟨u, ha, c⟩ := sr.obj n _ a e ia
      have mu : Mut (some u) := by rcases c with ⟨kv, rfl, _⟩ | ⟨kv, rfl, _⟩ <;> exact True.intro
      refine ⟨a, u, ha, mu, fun od => ?_⟩
      obtain ⟨wk, sr1⟩ := locked (od := od) ia ha mu c sr
      refine ⟨ι, s, S.set n (.rod kvs), sr1, nr.mono wk, ?_⟩
      cases q : b s (S.set n (.rod kvs)) with
      | no => rw [q] at h; exact (show RS X.K X.mg ι H .no D from h).no.elim
      | ok f S2 =>
        rw [q] at h
        obtain ⟨hg, h2⟩ := RS.guard (show RS X.K X.mg ι H (guardS (S2[n]? = some (.rod kvs)) (.ok f (S2.set n (.dct kvs)))) D from h)
        obtain ⟨f0, S3, e3, k⟩ := h2
        cases e3
        refine ⟨f, S2, rfl, ?_⟩
        cases f with
        | nx s' =>
            intro ι1 H1 σ1 g1 sr2 nr2
            obtain ⟨q1, q2, q3, q4⟩ := freed ia ha mu c g1 sr2
            exact ⟨q1, k ι1 _ σ1 q3 q4 (nr2.mono q2)⟩
        | bk s' =>
            intro ι1 H1 σ1 g1 sr2 nr2
            obtain ⟨q1, q2, q3, q4⟩ := freed ia ha mu c g1 sr2
            exact ⟨q1, k ι1 _ σ1 q3 q4 (nr2.mono q2)⟩
        | ct s' =>
            intro ι1 H1 σ1 g1 sr2 nr2
            obtain ⟨q1, q2, q3, q4⟩ := freed ia ha mu c g1 sr2
            exact ⟨q1, k ι1 _ σ1 q3 q4 (nr2.mono q2)⟩
        | ret x =>
            intro ι1 H1 v g1 sr2 xr
            obtain ⟨q1, q2, q3, q4⟩ := freed ia ha mu c g1 sr2
            refine ⟨q1, k ι1 _ v q3 q4 ?_⟩
            cases x with
            | d d => exact DR.mono q2 (show DR X.K ι1 H1 d v from xr)
            | tl ds =>
              obtain ⟨b, vs, e, n0, hb, hn, r⟩ := xr
              have nb : b ≠ a := fun z => by rw [z, upd_same] at n0; cases n0
              rw [upd_ne nb] at n0
              exact ⟨b, vs, e, n0, by rw [upd_ne nb]; exact hb, hn, r.mono q2⟩
    · exact h.no.elim
  · exact h.no.elim

/-! ### displays -/
theorem RQ.newD {kvs : List (D × D)} {S : Sto} {Q : VK} (h : RQ K mg ι H (.ok (.d (.ref S.length)) (S ++ [.dct kvs])) Q) (sr : SR K ι H mg S) {u : HO} (c : DcR K ι H kvs u) : ∀ p, H p = none → Q (.ref p) (upd H p u) := fun p hp => by
  have hn := sr.fresh hp
  have g : Gro K ι H ι (upd H p u) := Gro.laid hp hn
  have sr1 := sr.grow g fun a ha v e => by rw [upd_ne (ne_of_none e hp)]; exact e
  obtain ⟨g3, sr3, dr3⟩ := number (o := .dct kvs) g sr1 hp hn ⟨u, upd_same, c.mono g.wk⟩
  exact h.use g3 sr3 dr3
theorem se_dctNew {pos : Pos} : SE X (.Dict [] [] pos) eDctNew := pe_imp pe_dnewK fun σ H Q ⟨ι, s, S, sr, nr, h⟩ => RQ.newD h sr (.inl ⟨[], rfl, .nil⟩)

/-! ### list(range(..)) -/
theorem se_listRg1 {a : Expr} {m : M} {p p2 pos pos2 : Pos} (hc : X.calm = true) (hl : Gl X "list") (hlm : X.mg "list" = none) (hg : Gl X "range") (hm : X.mg "range" = none) (ha : SE X a m) (na : starEach [a] X.env = (false, eval a X.env) :: starEach [] X.env)
    (na2 : starEach [.Call (.Name "range" p2) [a] [] pos2] X.env = (false, eval (.Call (.Name "range" p2) [a] [] pos2) X.env) :: starEach [] X.env) : SE X (.Call (.Name "list" p) [.Call (.Name "range" p2) [a] [] pos2] [] pos) (eLstRg (iRange1 m)) :=
  pe_imp (pe_listRg hc hl hlm (prg_1 hg hm ha na) na2) fun σ H Q ⟨ι, s, S, sr, nr, h⟩ => by
    have h2 : RQ X.K X.mg ι H ((force (m s S)).bind fun d S1 => ((match d with
      | .int j => if -(2 ^ 62) ≤ j ∧ j < 2 ^ 62 then .ok ⟨rangeL 0 j, fun _ => True⟩ S1 else .no
      | _ => .no : R WK)).bind fun w S1 => if w.xs.length ≤ 16777216 then .ok (.tl w.xs) S1 else .no) Q := by
      unfold eLstRg iRange1 at h
      rw [R.bind_assoc] at h
      exact h
    show tM X.K X.mg m σ H _
    refine ⟨ι, s, S, sr, nr, bindD h2 fun d S1 ι1 H1 v g1 sr1 dr1 h1 => ?_⟩
    cases d with
    | int j =>
      have h3 : RQ X.K X.mg ι1 H1 (((if -(2 ^ 62) ≤ j ∧ j < 2 ^ 62 then .ok ⟨rangeL 0 j, fun _ => True⟩ S1 else .no : R WK)).bind fun w S1 => if w.xs.length ≤ 16777216 then .ok (.tl w.xs) S1 else .no) Q := h1
      split at h3
      · rename_i hz
        have h4 : RQ X.K X.mg ι1 H1 (if (rangeL 0 j).length ≤ 16777216 then .ok (.tl (rangeL 0 j)) S1 else .no) Q := h3
        split at h4
        · rename_i hl2
          have hl3 : (j - 0).toNat ≤ 16777216 := by
            unfold rangeL at hl2
            rw [List.length_map, List.length_range] at hl2
            exact hl2
          refine ⟨j, dr1.int, ⟨by omega, by omega, hz.1, hz.2, by omega⟩, ?_⟩
          have e : DRs X.K ι1 H1 (rangeL 0 j) (rgV 0 j) := by
            unfold rangeL rgV
            generalize List.range (j - 0).toNat = l
            induction l with
            | nil => exact DRs.nil
            | cons a l ih => exact DRs.cons rfl ih
          exact h4.newL sr1 e
        · exact h4.no.elim
      · exact (show RQ X.K X.mg ι1 H1 .no Q from h3).no.elim
    | _ => exact (show RQ X.K X.mg ι1 H1 .no Q from h1).no.elim
theorem se_listRg2 {a b : Expr} {m m' : M} {p p2 pos pos2 : Pos} (hc : X.calm = true) (hl : Gl X "list") (hlm : X.mg "list" = none) (hg : Gl X "range") (hm : X.mg "range" = none) (ha : SE X a m) (hb : SE X b m') (na : starEach [a, b] X.env = (false, eval a X.env) :: starEach [b] X.env)
    (nb : starEach [b] X.env = (false, eval b X.env) :: starEach [] X.env) (hpl : (backTo pos2 (starEach [b] X.env)).any (·.1) = false)
    (na2 : starEach [.Call (.Name "range" p2) [a, b] [] pos2] X.env = (false, eval (.Call (.Name "range" p2) [a, b] [] pos2) X.env) :: starEach [] X.env) : SE X (.Call (.Name "list" p) [.Call (.Name "range" p2) [a, b] [] pos2] [] pos) (eLstRg (iRange2 m m')) :=
  pe_imp (pe_listRg hc hl hlm (prg_2 hg hm ha hb na nb hpl) na2) fun σ H Q ⟨ι, s, S, sr, nr, h⟩ => by
    have h2 : RQ X.K X.mg ι H ((force (m s S)).bind fun d S1 => (force (m' s S1)).bind fun e S2 => ((match d, e with
      | .int i, .int j => if -(2 ^ 62) ≤ i ∧ i < 2 ^ 62 ∧ -(2 ^ 62) ≤ j ∧ j < 2 ^ 62 then .ok ⟨rangeL i j, fun _ => True⟩ S2 else .no
      | _, _ => .no : R WK)).bind fun w S1 => if w.xs.length ≤ 16777216 then .ok (.tl w.xs) S1 else .no) Q := by
      unfold eLstRg iRange2 at h
      simp only [R.bind_assoc] at h
      exact h
    show tM X.K X.mg m σ H _
    refine ⟨ι, s, S, sr, nr, bindD h2 fun d S1 ι1 H1 v g1 sr1 dr1 h1 => ⟨ι1, s, S1, sr1, nr.mono g1.wk, bindD h1 fun e S2 ι2 H2 w g2 sr2 dr2 h3 => ?_⟩⟩
    split at h3
    · rename_i i j
      split at h3
      · rename_i hz
        have h4 : RQ X.K X.mg ι2 H2 (if (rangeL i j).length ≤ 16777216 then .ok (.tl (rangeL i j)) S2 else .no) Q := h3
        split at h4
        · rename_i hl2
          have hl3 : (j - i).toNat ≤ 16777216 := by
            unfold rangeL at hl2
            rw [List.length_map, List.length_range] at hl2
            exact hl2
          cases (dr1.mono g2.wk).int
          refine ⟨i, j, rfl, dr2.int, ⟨hz.1, hz.2.1, hz.2.2.1, hz.2.2.2, by omega⟩, ?_⟩
          have e : DRs X.K ι2 H2 (rangeL i j) (rgV i j) := by
            unfold rangeL rgV
            generalize List.range (j - i).toNat = l
            induction l with
            | nil => exact DRs.nil
            | cons a l ih => exact DRs.cons rfl ih
          exact h4.newL sr2 e
        · exact h4.no.elim
      · exact (show RQ X.K X.mg ι2 H2 .no Q from h3).no.elim
    · exact (show RQ X.K X.mg ι2 H2 .no Q from h3).no.elim

/-! ### name op= e -/
theorem ss_aug {i : Nat} {x : Str} {e : Expr} {op : Operator} {pos pos' : Pos} {m : M} {f : D → D → Sto → R XR} {ti : TIp} (hN : X.N.Nodup) (hi : X.N[i]? = some x) (hx : Loc X.env.scope x) (he : SE X e m) (ho : PIp X op ti)
    (k : ∀ {ι H S d e v w Q}, SR X.K ι H X.mg S → DR X.K ι H d v → DR X.K ι H e w → RQ X.K X.mg ι H (f d e S) Q → ti v w H Q) (hf : X.fn x = true ∨ X.env.scope.names.lookup x = some .local) :
    SS X (.AugAssign (.Name x pos') op e pos) (sAug i f m) := ps_imp (ps_aug hN hi hx he ho hf) fun D σ H ⟨ι, s, S, sr, nr, h⟩ => by
  unfold sAug at h
  split at h
  · rename_i d ed
    obtain ⟨v, hv, dv⟩ := nr.2 i d ed
    refine ⟨v, hv, ι, s, S, sr, nr, bindDS h fun e S1 ι1 H1 w g1 sr1 dr1 h1 => k sr1 (dv.mono g1.wk) dr1 (bindDS h1 fun z S2 ι2 H2 u g2 sr2 dr2 h2 => h2.nx sr2 (((nr.mono g1.wk).mono g2.wk).set i dr2))⟩
  · exact h.no.elim
theorem sIpAdd {ι : List Addr} {H : Hp} {S : Sto} {d e : D} {v w : V} {Q : VK} (sr : SR K ι H mg S) (dv : DR K ι H d v) (dw : DR K ι H e w) (h : RQ K mg ι H ((fun d e S => match d, e with | .int i, .int j => .ok (.d (.int (i + j))) S | _, _ => .no : D → D → Sto → R XR) d e S) Q) : ipI (fun i j => i + j) v w H Q := by
  dsimp only at h
  split at h
  · exact ⟨_, _, dv.int, dw.int, h.here sr rfl⟩
  · exact h.no.elim
end
end Ev
/-! EvN: sorted of tuples, setdefault, displays of dicts -/
namespace Ev
open PySem L2 PyProof.Rows

/-! ### sorted of tuples that are told apart by the ints and texts that they begin with -/
abbrev Tk := Int ⊕ List Nat
def atomsD : List D → List Tk
  | .int i :: r => .inl i :: atomsD r
  | .str x :: r => .inr x.cps.toList :: atomsD r
  | _ => []
/-- they differ, and where they do there are two ints or two texts -/
def apart : List Tk → List Tk → Bool
  | .inl a :: r, .inl b :: t => if a = b then apart r t else true
  | .inr a :: r, .inr b :: t => if a = b then apart r t else true
  | _, _ => false
def tupD : D → List Tk
  | .tup ds => atomsD ds
  | _ => []
def isTup : D → Bool
  | .tup _ => true
  | _ => false
def tltD (d e : D) : Bool := lexLt itemOrd (tupD d) (tupD e)
def pwB {α : Type} (f : α → α → Bool) : List α → Bool
  | [] => true
  | a :: l => l.all (f a) && pwB f l
def bSortT (x : XR) (S : Sto) : R XR := match listX x S with
  | some ds => if ds.all isTup = true ∧ pwB (fun d e => apart (tupD d) (tupD e)) ds = true then .ok (.tl (ds.mergeSort fun a b => !tltD b a)) S else .no
  | none => .no
/-- ints, or such tuples -/
def bSortX (x : XR) (S : Sto) : R XR := match (listX x S).bind intsD with
  | some _ => bSorted x S
  | none => bSortT x S

theorem apart_symm : ∀ {a b : List Tk}, apart a b = true → apart b a = true
  | .inl a :: r, .inl b :: t, h => by
    unfold apart at h ⊢
    by_cases e : a = b
    · rw [if_pos e] at h; rw [if_pos e.symm]; exact apart_symm h
    · rw [if_neg (Ne.symm e)]
  | .inr a :: r, .inr b :: t, h => by
    unfold apart at h ⊢
    by_cases e : a = b
    · rw [if_pos e] at h; rw [if_pos e.symm]; exact apart_symm h
    · rw [if_neg (Ne.symm e)]
  | [], _, h => by simp [apart] at h
  | .inl _ :: _, [], h => by simp [apart] at h
  | .inr _ :: _, [], h => by simp [apart] at h
  | .inl _ :: _, .inr _ :: _, h => by simp [apart] at h
  | .inr _ :: _, .inl _ :: _, h => by simp [apart] at h
theorem apart_ne : ∀ {a : List Tk}, apart a a = false
  | [] => rfl
  | .inl a :: r => by unfold apart; rw [if_pos rfl]; exact apart_ne
  | .inr a :: r => by unfold apart; rw [if_pos rfl]; exact apart_ne
theorem pwB_iff {α : Type} {f : α → α → Bool} : ∀ {l : List α}, pwB f l = true ↔ l.Pairwise (fun a b => f a b = true)
  | [] => by simp [pwB]
  | a :: l => by
    unfold pwB
    rw [Bool.and_eq_true, pwB_iff (l := l), List.pairwise_cons, List.all_eq_true]
theorem pw_eq {α : Type} {k : α → List Tk} : ∀ {l : List α} {a b : α}, l.Pairwise (fun a b => apart (k a) (k b) = true) → a ∈ l → b ∈ l → k a = k b → a = b
  | c :: l, a, b, h, ha, hb, e => by
    obtain ⟨h1, h2⟩ := List.pairwise_cons.mp h
    rcases List.mem_cons.mp ha with ea | ha'
    · rcases List.mem_cons.mp hb with eb | hb'
      · rw [ea, eb]
      · have := h1 b hb'; rw [← ea, e, apart_ne] at this; cases this
    · rcases List.mem_cons.mp hb with eb | hb'
      · have := h1 a ha'; rw [← eb, e, apart_ne] at this; cases this
      · exact pw_eq h2 ha' hb' e
theorem pw_any {α : Type} {k : α → List Tk} : ∀ {l : List α} {a b : α}, l.Pairwise (fun a b => apart (k a) (k b) = true) → a ∈ l → b ∈ l → a = b ∨ apart (k a) (k b) = true
  | c :: l, a, b, h, ha, hb => by
    obtain ⟨h1, h2⟩ := List.pairwise_cons.mp h
    rcases List.mem_cons.mp ha with ea | ha'
    · rcases List.mem_cons.mp hb with eb | hb'
      · exact .inl (by rw [ea, eb])
      · exact .inr (by rw [ea]; exact h1 b hb')
    · rcases List.mem_cons.mp hb with eb | hb'
      · exact .inr (by rw [eb]; exact apart_symm (h1 a ha'))
      · exact pw_any h2 ha' hb'

/-- the same of the machine's values -/
def atomsV : List Value → List Tk
  | .int i _ :: r => .inl i :: atomsV r
  | .str x _ :: r => .inr x.cps.toList :: atomsV r
  | _ => []
section
variable {prog : Program} {w : World} {A : Around} {s : Shared}
open PySem.W in
theorem kat_apart {b fin : Bool} {Q : Bool → Shared → Prop} : ∀ (xs ys : List Value) (i : Nat), apart (atomsV xs) (atomsV ys) = true → Q (lexLt itemOrd (atomsV xs) (atomsV ys)) s → KatLex prog w A b fin Q (xs.zip ys) i s
  | .int a t :: xs, .int c u :: ys, i, h, hq => by
    have h' : (if a = c then apart (atomsV xs) (atomsV ys) else true) = true := h
    refine kat_cons (SeqAt.EqAt.int_int a t c u prog w _ _ (kat_go (fun e1 => ?_) (fun e1 => ?_)))
    · have ex : a = c := by simpa using e1
      subst ex
      rw [if_pos rfl] at h'
      exact kat_yes (kat_apart xs ys (i + 1) h' (by
        have : lexLt itemOrd (atomsV (.int a t :: xs)) (atomsV (.int a u :: ys)) = lexLt itemOrd (atomsV xs) (atomsV ys) := lex_self (O := itemOrd) (.inl a) _ _
        rw [this] at hq; exact hq))
    · have ex : a ≠ c := by simpa using e1
      refine kat_no (oneLt_any_int ?_)
      have : lexLt itemOrd (atomsV (.int a t :: xs)) (atomsV (.int c u :: ys)) = decide (a < c) := lex_diff (O := itemOrd) (fun z => ex (Sum.inl.inj z))
      rw [this] at hq; exact hq
  | .str a t :: xs, .str c u :: ys, i, h, hq => by
    have h' : (if a.cps.toList = c.cps.toList then apart (atomsV xs) (atomsV ys) else true) = true := h
    refine kat_cons (SeqAt.EqAt.str_str a t c u prog w _ _ (kat_go (fun e1 => ?_) (fun e1 => ?_)))
    · have ex : a = c := by simpa using e1
      subst ex
      rw [if_pos rfl] at h'
      exact kat_yes (kat_apart xs ys (i + 1) h' (by
        have : lexLt itemOrd (atomsV (.str a t :: xs)) (atomsV (.str a u :: ys)) = lexLt itemOrd (atomsV xs) (atomsV ys) := lex_self (O := itemOrd) (.inr a.cps.toList) _ _
        rw [this] at hq; exact hq))
    · have ex : a ≠ c := by simpa using e1
      have ex2 : a.cps.toList ≠ c.cps.toList := fun z => ex (by
        cases a; cases c
        simp only at z
        congr 1
        exact Array.toList_inj.mp z)
      refine kat_no (oneLt_any_str ?_)
      have : lexLt itemOrd (atomsV (.str a t :: xs)) (atomsV (.str c u :: ys)) = itemLt (.inr a.cps.toList) (.inr c.cps.toList) := lex_diff (O := itemOrd) (fun z => ex2 (Sum.inr.inj z))
      rw [this] at hq; exact hq
open PySem.W in
theorem kat_selfs {b : Bool} {Q : Bool → Shared → Prop} : ∀ (xs : List Value) (i : Nat), Q false s → KatLex prog w A b false Q (xs.zip xs) i s
  | [], i, hq => kat_nil hq
  | x :: xs, i, hq => kat_cons (SeqAt.EqAt.same x prog w _ _ (kat_yes (kat_selfs xs (i + 1) hq)))
end
def keyV (h : Heap) : Value → List Tk
  | .ref a => match h.get? a with
    | none => []
    | some o => match o.data with
      | .seq xs _ => atomsV xs.toList
      | _ => []
  | _ => []
def TupV (h : Heap) (v : Value) : Prop := ∃ a o xs n, v = .ref a ∧ h.get? a = some o ∧ o.cls = .type "tuple" ∧ o.data = .seq xs n
theorem keyV_at {h : Heap} {a : Addr} {o : Obj} {xs : Array Value} {n : Nat} (ho : h.get? a = some o) (hd : o.data = .seq xs n) : keyV h (.ref a) = atomsV xs.toList := by
  show (match h.get? a with | none => [] | some o => match o.data with | .seq xs _ => atomsV xs.toList | _ => []) = _
  rw [ho]
  show (match o.data with | .seq xs _ => atomsV xs.toList | _ => []) = _
  rw [hd]
theorem swo_key (k : Value → List Tk) : SrtO.Swo fun v u => lexLt itemOrd (k v) (k u) := by
  refine ⟨fun x y h => ?_, fun x y z h1 h2 => ?_⟩
  · cases e : lexLt itemOrd (k y) (k x) with
    | false => rfl
    | true =>
      have := lex_trans (O := itemOrd) _ _ _ h e
      rw [lex_irrefl] at this; cases this
  · cases e : lexLt itemOrd (k z) (k x) with
    | false => rfl
    | true =>
      rcases lex_negTrans (O := itemOrd) (k z) (k y) (k x) e with q | q
      · exact q.symm.trans h2
      · exact q.symm.trans h1
section
variable {prog : Program} {w : World} {A : Around} {s : Shared} {E : Value → Shared → Prop}
open PySem.W in
theorem tups_cmp {vs : List Value} {k : Value → List Tk} (hp : ∀ v ∈ vs, TupV s.heap v ∧ keyV s.heap v = k v) (pw : ∀ u ∈ vs, ∀ v ∈ vs, u = v ∨ apart (k u) (k v) = true) : SrtO.Cmp prog w A s (tuples' true) (fun p => p.1 ∈ vs) (SrtO.lt2 fun v u => lexLt itemOrd (k v) (k u)) := by
  intro p q hm hm'
  obtain ⟨⟨a, o, xs, n, e, ho, hc, hd⟩, hk⟩ := hp _ hm
  obtain ⟨⟨a', o', xs', n', e', ho', hc', hd'⟩, hk'⟩ := hp _ hm'
  show wpAny (model prog w) A (keyLt' (tuples' true) p.1 q.1) (fun r s' => s' = s ∧ r = lexLt itemOrd (k p.1) (k q.1)) (fun _ _ => False) s
  rcases pw _ hm _ hm' with eq | ap
  · rw [← eq, e] at e'
    cases e'
    rw [ho] at ho'; cases ho'
    rw [hd] at hd'; cases hd'
    rw [← eq, e]
    refine kat_lt ho hd ho hd ?_
    rw [show decide (xs.size < xs.size) = false from decide_eq_false (Nat.lt_irrefl _)]
    exact kat_selfs _ _ ⟨rfl, (lex_irrefl (O := itemOrd) _).symm⟩
  · rw [← hk, ← hk'] at ap ⊢
    rw [e, e'] at ap ⊢
    rw [keyV_at ho hd, keyV_at ho' hd'] at ap ⊢
    exact kat_lt ho hd ho' hd' (kat_apart _ _ _ ap ⟨rfl, rfl⟩)
theorem atomsV_head {xs : List Value} {x : Tk} {r : List Tk} (h : atomsV xs = x :: r) : ∃ f, xs[0]? = some f ∧ ((∃ i t, f = .int i t ∧ x = .inl i) ∨ ∃ z t, f = .str z t ∧ x = .inr z.cps.toList) := by
  unfold atomsV at h
  split at h
  · cases h; exact ⟨_, rfl, .inl ⟨_, _, rfl, rfl⟩⟩
  · cases h; exact ⟨_, rfl, .inr ⟨_, _, rfl, rfl⟩⟩
  · cases h
theorem apart_head {a b : List Tk} (h : apart a b = true) : ∃ x r y t, a = x :: r ∧ b = y :: t ∧ x.isLeft = y.isLeft := by
  unfold apart at h
  split at h
  · exact ⟨_, _, _, _, rfl, rfl, rfl⟩
  · exact ⟨_, _, _, _, rfl, rfl, rfl⟩
  · cases h
open PySem.W in
theorem tupsOf_all {h : Heap} {k : Value → List Tk} {g : Bool} : ∀ {vs : List Value}, (∀ v ∈ vs, TupV h v ∧ keyV h v = k v) → (∀ v ∈ vs, ∃ x r, k v = x :: r ∧ x.isLeft = g) → ∃ fs, fs.length = vs.length ∧ TupsOf h (fun _ => !g) vs fs
  | [], _, _ => ⟨[], rfl, .nil⟩
  | v :: vs, hp, hg => by
    obtain ⟨fs, hl, ht⟩ := tupsOf_all (vs := vs) (fun u hu => hp u (List.mem_cons_of_mem _ hu)) (fun u hu => hg u (List.mem_cons_of_mem _ hu))
    obtain ⟨⟨a, o, xs, n, e, ho, hc, hd⟩, hk⟩ := hp v (List.mem_cons_self ..)
    obtain ⟨x, r, e1, e2⟩ := hg v (List.mem_cons_self ..)
    rw [← hk, e, keyV_at ho hd] at e1
    obtain ⟨f, hf, hff⟩ := atomsV_head e1
    refine ⟨f :: fs, congrArg Nat.succ hl, .cons ⟨a, o, xs, n, e, ho, hc, hd, by rw [← Array.getElem?_toList]; exact hf, fun z => ?_, fun z => ?_⟩ ht⟩
    · rcases hff with ⟨i, t, rfl, rfl⟩ | ⟨i, t, rfl, rfl⟩
      · exact ⟨_, _, rfl⟩
      · rw [← e2] at z; cases z
    · rcases hff with ⟨i, t, rfl, rfl⟩ | ⟨i, t, rfl, rfl⟩
      · rw [← e2] at z; cases z
      · exact ⟨_, _, rfl⟩
theorem atomsV_keep {h h' : Heap} {v : Value} (t : TupV h v) (kk : ∀ b o, h.get? b = some o → o.cls = .type "tuple" → h'.get? b = some o) : TupV h' v ∧ keyV h' v = keyV h v := by
  obtain ⟨a, o, xs, n, rfl, ho, hc, hd⟩ := t
  exact ⟨⟨a, o, xs, n, rfl, kk a o ho hc, hc, hd⟩, by rw [keyV_at ho hd, keyV_at (kk a o ho hc) hd]⟩
open PySem.W in
theorem tups_sortable {a : Addr} {vs : List Value} {k : Value → List Tk} (h2 : 2 ≤ vs.length) (hp : ∀ v ∈ vs, TupV s.heap v ∧ keyV s.heap v = k v) (pw : vs.Pairwise fun u v => apart (k u) (k v) = true) (ha : ∀ o, s.heap.get? a = some o → o.cls ≠ .type "tuple") :
    SrtO.SortableO prog w A s a vs fun v u => lexLt itemOrd (k v) (k u) := by
  intro h' keep
  have hp' : ∀ v ∈ vs, TupV h' v ∧ keyV h' v = k v := fun v hm => by
    obtain ⟨t, e⟩ := hp v hm
    obtain ⟨t', e'⟩ := atomsV_keep t fun b o eb c => keep b o (fun z => by subst z; exact ha o eb c) eb
    exact ⟨t', e'.trans e⟩
  have hg : ∃ g, ∀ v ∈ vs, ∃ x r, k v = x :: r ∧ x.isLeft = g := by
    match vs, h2, pw with
    | u :: v :: l, _, pw =>
      obtain ⟨p1, p2⟩ := List.pairwise_cons.mp pw
      obtain ⟨x, r, y, t, e1, e2, e3⟩ := apart_head (p1 v (List.mem_cons_self ..))
      refine ⟨x.isLeft, fun z hz => ?_⟩
      rcases List.mem_cons.mp hz with rfl | hz
      · exact ⟨x, r, e1, rfl⟩
      · obtain ⟨x', r', y', t', f1, f2, f3⟩ := apart_head (p1 z hz)
        rw [e1] at f1; cases f1
        exact ⟨y', t', f2, f3.symm⟩
    | [], h, _ => exact absurd h (by decide)
    | [v], h, _ => exact absurd h (by simp)
  obtain ⟨g, hg⟩ := hg
  obtain ⟨fs, hl, ht⟩ := tupsOf_all hp' hg
  have hpos : 0 < fs.length := by omega
  refine ⟨tuples' true, fun Q E hq => tup_kind (s := { s with heap := h' }) hpos ht hq, ?_⟩
  exact tups_cmp (s := { s with heap := h' }) hp' fun u hu v hv => pw_any pw hu hv
end
/-! as a rule -/
def atomsVV : List V → List Tk
  | .int i :: r => .inl i :: atomsVV r
  | .str x :: r => .inr x.cps.toList :: atomsVV r
  | _ => []
def keyH (H : Hp) : V → List Tk
  | .ref a => match H a with
    | some (.tup ts) => atomsVV ts
    | _ => []
  | _ => []
theorem atoms_rel : ∀ {vs : List V} {us : List Value}, Vals vs us → atomsV us = atomsVV vs
  | [], us, r => by cases r; rfl
  | v :: vs, us, r => by
    cases r with
    | @cons a b as bs h t =>
      cases v with
      | int i => obtain ⟨t0, rfl⟩ := h; show Sum.inl i :: atomsV bs = Sum.inl i :: atomsVV vs; rw [atoms_rel t]
      | str x => obtain ⟨t0, rfl⟩ := h; show Sum.inr x.cps.toList :: atomsV bs = Sum.inr x.cps.toList :: atomsVV vs; rw [atoms_rel t]
      | bl c => cases h; rfl
      | ref a => cases h; rfl
      | _ => first | (cases h; rfl) | (obtain ⟨_, h⟩ := h; cases h; rfl) | (obtain ⟨_, _, h⟩ := h; cases h; rfl)
def rSortTt (K : PySem.W.Frag) : List V → Hp → VK → Prop := fun vs H Q => ∃ (a : Addr) (xs : List V), vs = [V.ref a] ∧ SqL K H a xs ∧ (∀ x ∈ xs, ∃ t ts, x = V.ref t ∧ H t = some (.tup ts)) ∧ (xs.Pairwise fun x y => apart (keyH H x) (keyH H y) = true) ∧
  ∀ ys p, ys.Perm xs → (ys.Pairwise fun x y => lexLt itemOrd (keyH H y) (keyH H x) = false) → H p = none → Q (.ref p) (upd H p (.lst ys))
section
variable {K : PySem.W.Frag} {ι ι' ι0 : List Addr} {H H' H0 : Hp} {mg : Str → Option Value} {X : Cx}
theorem cr_sortTt : CallR X (.builtin "sorted") (rSortTt X.K) := by
  intro pins s σ H vs us Q I r h
  obtain ⟨a, xs, rfl, hs, hx, pw, q⟩ := h
  obtain ⟨its, rv, hl, hz⟩ := I.list hs
  obtain ⟨u, rfl, ru⟩ := vals1 r
  obtain rfl : u = Value.ref a := ru
  obtain ⟨e1, e2⟩ := refs_back rv fun x m => by
    obtain ⟨t, ts, e, _⟩ := hx x m
    exact ⟨t, e⟩
  have tv : ∀ v ∈ its, TupV s.heap v ∧ keyV s.heap v = keyH H (backV v) := fun v hv => by
    obtain ⟨t, rfl⟩ := e2 v hv
    have hm : V.ref t ∈ xs := by rw [e1]; exact List.mem_map.mpr ⟨_, hv, rfl⟩
    obtain ⟨t', ts, e, ht⟩ := hx _ hm
    cases e
    obtain ⟨_, its2, r2, o, ho, hc, n, hd⟩ := I.hok _ _ ht
    refine ⟨⟨t, o, _, n, rfl, ho, hc, hd⟩, ?_⟩
    rw [keyV_at ho hd]
    show atomsV its2 = match H t with | some (.tup ts) => atomsVV ts | _ => []
    rw [ht]
    exact atoms_rel r2
  have pw2 : its.Pairwise fun u v => apart (keyH H (backV u)) (keyH H (backV v)) = true := by
    rw [e1] at pw
    exact List.pairwise_map.mp pw
  refine SrtO.sorted_ord (swo_key fun v => keyH H (backV v)) hl.isList (by rw [← rv.length]; exact hz) (fun h2 h₁ a' ha kk => ?_) fun out h1 h2 => ?_
  · refine tups_sortable (s := { s with heap := h₁ }) h2 (fun v hm => ?_) pw2 fun o e => ?_
    · obtain ⟨t, e⟩ := tv v hm
      obtain ⟨t', e'⟩ := atomsV_keep (h' := h₁) t fun b o eb _ => (kk b o eb).2
      exact ⟨t', e'.trans e⟩
    · have e' : some o = some (seqObj "list" its.toArray 0) := e.symm.trans ha
      cases e'
      intro c
      exact absurd (Value.type.inj c) (by decide)
  · have h3 : ∀ u ∈ out, ∃ a, u = Value.ref a := fun u hu => e2 u (h2.perm.mem_iff.mp hu)
    obtain ⟨n, hn⟩ := PyProof.Rows.sortedAll_at s.heap its out.toArray
    refine ⟨.ref (s.heap.objs.size + 1), upd H (s.heap.objs.size + 1) (.lst (out.map backV)), I.laid (t' := s.toks) (fun _ _ => PyProof.Rows.sortedAll_old) (Nat.le_succ _) ⟨?_, out, n, vals_back h3, hn⟩, rfl, q _ _ ?_ (List.pairwise_map.mpr h1) (I.hok.fresh (Nat.le_succ _))⟩
    · rw [List.length_map, h2.perm.length_eq, ← rv.length]; exact hz
    · rw [e1]; exact h2.perm.map backV
theorem atomsD_rel : ∀ {ds : List D} {vs : List V}, DRs K ι H ds vs → atomsVV vs = atomsD ds
  | [], vs, r => by rw [DRs.nil_iff.mp r]; rfl
  | d :: ds, vs, r => by
    obtain ⟨v, ws, rfl, q, r2⟩ := DRs.cons_iff.mp r
    cases d with
    | int i => cases q.int; show Sum.inl i :: atomsVV ws = Sum.inl i :: atomsD ds; rw [atomsD_rel r2]
    | str x => cases q.str; show Sum.inr x.cps.toList :: atomsVV ws = Sum.inr x.cps.toList :: atomsD ds; rw [atomsD_rel r2]
    | non => cases q.non; rfl
    | bl b => cases q.bl; rfl
    | tup es => obtain ⟨a, vs, rfl, _⟩ := q.tup; rfl
    | kt es => obtain ⟨a, vs, rfl, _⟩ := q.kt; rfl
    | ref n => obtain ⟨a, rfl, _⟩ := q.ref; rfl
theorem keyH_rel {d : D} {v : V} (q : DR K ι H d v) (h : isTup d = true) : (∃ t ts, v = V.ref t ∧ H t = some (.tup ts)) ∧ keyH H v = tupD d := by
  cases d with
  | tup es =>
    obtain ⟨a, vs, rfl, ha, r⟩ := q.tup
    refine ⟨⟨a, vs, rfl, ha⟩, ?_⟩
    show (match H a with | some (.tup ts) => atomsVV ts | _ => []) = atomsD es
    rw [ha]
    exact atomsD_rel r
  | _ => cases h
theorem drs_perm {vs ys : List V} (p : ys.Perm vs) : ∀ {ds : List D}, DRs K ι H ds vs → ∃ es, es.Perm ds ∧ DRs K ι H es ys := by
  induction p with
  | nil => exact fun {ds} r => ⟨ds, List.Perm.refl _, r⟩
  | cons x _ ih =>
    intro ds r
    cases ds with
    | nil => cases DRs.nil_iff.mp r
    | cons d ds =>
      obtain ⟨w, ws, e, q, r⟩ := DRs.cons_iff.mp r
      cases e
      obtain ⟨es, p, r⟩ := ih r
      exact ⟨d :: es, p.cons d, DRs.cons q r⟩
  | swap x y l =>
    intro ds r
    match ds with
    | [] => cases DRs.nil_iff.mp r
    | [d] =>
      obtain ⟨w, ws, e, q, r⟩ := DRs.cons_iff.mp r
      cases e
      cases DRs.nil_iff.mp r
    | d :: e :: ds =>
      obtain ⟨w, ws, e1, q, r⟩ := DRs.cons_iff.mp r
      cases e1
      obtain ⟨w, ws, e1, q2, r⟩ := DRs.cons_iff.mp r
      cases e1
      exact ⟨e :: d :: ds, List.Perm.swap .., DRs.cons q2 (DRs.cons q r)⟩
  | trans _ _ ih1 ih2 =>
    intro ds r
    obtain ⟨es, p, r⟩ := ih2 r
    obtain ⟨fs, p2, r⟩ := ih1 r
    exact ⟨fs, p2.trans p, r⟩
theorem drs_pw {R : List Tk → List Tk → Prop} : ∀ {ds : List D} {vs : List V}, DRs K ι H ds vs → (∀ d ∈ ds, isTup d = true) → ((ds.Pairwise fun a b => R (tupD a) (tupD b)) ↔ vs.Pairwise fun a b => R (keyH H a) (keyH H b))
  | [], vs, r, _ => by rw [DRs.nil_iff.mp r]; simp
  | d :: ds, vs, r, ht => by
    obtain ⟨v, ws, rfl, q, r⟩ := DRs.cons_iff.mp r
    rw [List.pairwise_cons, List.pairwise_cons, drs_pw r fun e he => ht e (List.mem_cons_of_mem _ he), (keyH_rel q (ht d (List.mem_cons_self ..))).2]
    have h2 : ∀ {ds : List D} {ws : List V}, DRs K ι H ds ws → (∀ e ∈ ds, isTup e = true) → ((∀ e ∈ ds, R (tupD d) (tupD e)) ↔ ∀ w ∈ ws, R (tupD d) (keyH H w)) := by
      intro ds
      induction ds with
      | nil => intro ws r _; rw [DRs.nil_iff.mp r]; simp
      | cons e es ih =>
        intro ws r ht
        obtain ⟨w, us, rfl, q, r⟩ := DRs.cons_iff.mp r
        rw [List.forall_mem_cons, List.forall_mem_cons, ih r fun e he => ht e (List.mem_cons_of_mem _ he), (keyH_rel q (ht e (List.mem_cons_self ..))).2]
    rw [h2 r fun e he => ht e (List.mem_cons_of_mem _ he)]
theorem bi_sortT : Bi1 X bSortT (rSortTt X.K) := fun {ι0 H0 ι H S x v Q} g sr xr h => by
  unfold bSortT at h
  split at h
  · rename_i ds e1
    split at h
    · rename_i hz
      obtain ⟨a, vs, rfl, qs, r⟩ := listX_of sr xr e1
      have ht : ∀ d ∈ ds, isTup d = true := List.all_eq_true.mp hz.1
      have pw := pwB_iff.mp hz.2
      refine ⟨a, vs, rfl, qs, fun x hx => ?_, (drs_pw (R := fun a b => apart a b = true) r ht).mp pw, fun ys p hp hs hn => ?_⟩
      · obtain ⟨i, hi⟩ := List.mem_iff_getElem?.mp hx
        obtain ⟨d, hd, q⟩ := r.getV hi
        exact (keyH_rel q (ht d (List.mem_of_getElem? hd))).1
      · obtain ⟨es, pe, re⟩ := drs_perm hp r
        have hte : ∀ d ∈ es, isTup d = true := fun d hd => ht d (pe.mem_iff.mp hd)
        have hse := (drs_pw (R := fun a b => lexLt itemOrd b a = false) re hte).mpr hs
        have tot : ∀ a b : D, ((!tltD b a) || (!tltD a b)) = true := fun a b => by
          unfold tltD
          cases e : lexLt itemOrd (tupD b) (tupD a) with
          | false => rfl
          | true =>
            cases e2 : lexLt itemOrd (tupD a) (tupD b) with
            | false => rfl
            | true =>
              have := lex_trans (O := itemOrd) _ _ _ e e2
              rw [lex_irrefl] at this; cases this
        have tr : ∀ a b c : D, (!tltD b a) = true → (!tltD c b) = true → (!tltD c a) = true := fun a b c h1 h2 => by
          have h1' : tltD b a = false := by simpa using h1
          have h2' : tltD c b = false := by simpa using h2
          cases e : tltD c a with
          | false => rfl
          | true =>
            rcases lex_negTrans (O := itemOrd) _ (tupD b) _ e with q | q
            · exact absurd (q.symm.trans h2') (by decide)
            · exact absurd (q.symm.trans h1') (by decide)
        have sm := List.pairwise_mergeSort tr tot ds
        have ee : es = ds.mergeSort fun a b => !tltD b a := by
          refine List.Perm.eq_of_pairwise (le := fun a b => tltD b a = false) (fun a b ha hb h1 h2 => pw_eq (k := tupD) pw (pe.mem_iff.mp ha) ((List.mergeSort_perm ds _).mem_iff.mp hb) (lex_total (O := itemOrd) _ _ h2 h1)) hse (sm.imp fun {a b} h => by simpa using h) (pe.trans (List.mergeSort_perm ds _).symm)
        rw [← ee] at h
        have hn0 : H0 p = none := g.free hn
        have g2 : Gro X.K ι H ι (upd H p (.lst ys)) := Gro.laid hn (sr.fresh hn)
        exact h.use (g.trans g2) (sr.grow g2 fun a _ u e => by rw [upd_ne (ne_of_none e hn)]; exact e) ⟨p, ys, rfl, hn0, upd_same, sr.fresh hn, re.mono g2.wk⟩
    · exact h.no.elim
  · exact h.no.elim
def rSortX (K : PySem.W.Frag) : List V → Hp → VK → Prop := fun vs H Q => rSorted K vs H Q ∨ rSortTt K vs H Q
theorem cr_sortX : CallR X (.builtin "sorted") (rSortX X.K) := fun pins s σ H vs us Q I r h => by
  rcases h with h | h
  · exact cr_sorted pins s σ H vs us Q I r h
  · exact cr_sortTt pins s σ H vs us Q I r h
theorem bi_sortX : Bi1 X bSortX (rSortX X.K) := fun g sr xr h => by
  unfold bSortX at h
  split at h
  · exact .inl (bi_sorted g sr xr h)
  · exact .inr (bi_sortT g sr xr h)

/-! ### displays of dicts -/
def pOf : List (M × M) → MP
  | [] => pNil
  | p :: r => pCons p.1 p.2 (pOf r)
def RPr (K : PySem.W.Frag) (mg : Str → Option Value) (ι : List Addr) (H : Hp) (r : R (List (D × D))) (Q : List (V × V) → Hp → Prop) : Prop :=
  ∃ l S', r = .ok l S' ∧ ∀ ι' H' pv, Gro K ι H ι' H' → SR K ι' H' mg S' → Paired (fun (p : D × D) (q : V × V) => DR K ι' H' p.1 q.1 ∧ DR K ι' H' p.2 q.2) l pv → Q pv H'
theorem pairs_tM : ∀ {ps : List (M × M)} {ι : List Addr} {H : Hp} {s : Env} {S : Sto} {σ : L2.St} {Q : List (V × V) → Hp → Prop}, SR X.K ι H X.mg S → NR X.K ι H s σ → RPr X.K X.mg ι H (pOf ps s S) Q → tPairs (ps.map fun p => (tM X.K X.mg p.1, tM X.K X.mg p.2)) σ H Q
  | [], ι, H, s, S, σ, Q, sr, nr, h => by
    obtain ⟨l, S', e, k⟩ := h
    cases e
    exact k ι H [] Gro.refl sr .nil
  | p :: ps, ι, H, s, S, σ, Q, sr, nr, h => by
    have h' : RPr X.K X.mg ι H ((force (p.1 s S)).bind fun d S1 => (force (p.2 s S1)).bind fun e S2 => (pOf ps s S2).bind fun l S3 => .ok ((d, e) :: l) S3) Q := h
    refine ⟨ι, s, S, sr, nr, bindDG (β := List (D × D)) (W := fun ι H r => RPr X.K X.mg ι H r Q) (fun _ _ ⟨_, _, e, _⟩ => by cases e) (fun ι H ι' H' r ⟨l, S', e, k⟩ g => ⟨l, S', e, fun ι2 H2 pv g2 => k ι2 H2 pv (g.trans g2)⟩) h' fun d S1 ι1 H1 v g1 sr1 dr1 h1 => ?_⟩
    refine ⟨ι1, s, S1, sr1, nr.mono g1.wk, bindDG (β := List (D × D)) (W := fun ι H r => RPr X.K X.mg ι H r Q) (fun _ _ ⟨_, _, e, _⟩ => by cases e) (fun ι H ι' H' r ⟨l, S', e, k⟩ g => ⟨l, S', e, fun ι2 H2 pv g2 => k ι2 H2 pv (g.trans g2)⟩) h1 fun e S2 ι2 H2 w g2 sr2 dr2 h2 => ?_⟩
    refine pairs_tM (ps := ps) sr2 ((nr.mono g1.wk).mono g2.wk) ?_
    obtain ⟨l, S', e2, k⟩ := h2
    cases q : pOf ps s S2 with
    | no => rw [q] at e2; cases e2
    | ok l' S3 =>
      rw [q] at e2
      cases e2
      exact ⟨l', _, rfl, fun ι3 H3 pv g3 sr3 pr => k ι3 H3 ((v, w) :: pv) g3 sr3 (.cons ⟨(dr1.mono g2.wk).mono g3.wk, dr2.mono g3.wk⟩ pr)⟩
theorem merge_rel : ∀ {l : List (D × D)} {pv : List (V × V)} {acc out : List (D × D)} {av : List (Key × V)}, Paired (fun (p : D × D) (q : V × V) => DR K ι H p.1 q.1 ∧ DR K ι H p.2 q.2) l pv → Paired (KPl K ι H) acc av → mergeD acc l = some out →
    ∃ kv : List (Key × V), pv = kv.map (fun p => (kV p.1, p.2)) ∧ kv.length = l.length ∧ Paired (KPl K ι H) out (mergeK av kv)
  | _, _, acc, out, av, .nil, pa, h => by cases h; exact ⟨[], rfl, rfl, pa⟩
  | (k, v) :: l, (kv, w) :: pv, acc, out, av, .cons r t, pa, h => by
    have h' : (match keyD k with | some q => mergeD (Ev.putK acc (.inl q) k v) l | none => none) = some out := h
    cases e : keyD k with
    | none => rw [e] at h'; cases h'
    | some q =>
      rw [e] at h'
      obtain ⟨r1, r2⟩ := r
      have ek := keyD_kV e r1
      replace ek : kv = kV q := ek
      obtain ⟨kvs, e1, e2, e3⟩ := merge_rel t (put_l pa e r2) h'
      exact ⟨(q, w) :: kvs, by rw [List.map_cons, ← e1, ek], congrArg Nat.succ e2, e3⟩
theorem SR.offG {S : Sto} (sr : SR K ι H mg S) {p : Addr} {o : HO} (hn : p ∉ ι) (wk : Wk K ι H ι (upd H p o)) : SR K ι (upd H p o) mg S :=
  ⟨sr.len, sr.nd, fun n ob a e1 e2 => (sr.obj n ob a e1 e2).mono wk fun u q => by
    have na : a ≠ p := fun z => hn (by rw [← z]; exact List.mem_of_getElem? e2)
    rw [upd_ne na]; exact q⟩
theorem se_disp {pos : Pos} {keys : List (Option Expr)} {values : List Expr} {ps : List (M × M)} (h : PPs X pos keys values (ps.map fun p => (tM X.K X.mg p.1, tM X.K X.mg p.2))) (hall : keys.all (·.isSome) = true) (hl : keys.length = values.length) (h0 : keys ≠ []) (h15 : keys.length ≤ 15) :
    SE X (.Dict keys values pos) (eDisp (pOf ps)) := pe_imp (pe_disp h hall hl h0 h15) fun σ H Q ⟨ι, s, S, sr, nr, h⟩ => fun p hp => by
  have hn := sr.fresh hp
  have g : Gro X.K ι H ι (upd H p (.dK [])) := Gro.laid hp hn
  refine pairs_tM (sr.grow g fun a ha v e => by rw [upd_ne (ne_of_none e hp)]; exact e) (nr.mono g.wk) ?_
  have h' : RQ X.K X.mg ι H ((pOf ps s S).bind fun l S1 => if l.length ≤ 15 then match mergeD [] l with
    | some kvs => .ok (.d (.ref S1.length)) (S1 ++ [.dct kvs])
    | none => .no
    else .no) Q := h
  cases q : pOf ps s S with
  | no => rw [q] at h'; exact (show RQ X.K X.mg ι H .no Q from h').no.elim
  | ok l S1 =>
    rw [q] at h'
    have h2 : RQ X.K X.mg ι H (if l.length ≤ 15 then match mergeD [] l with
      | some kvs => .ok (.d (.ref S1.length)) (S1 ++ [.dct kvs])
      | none => .no
      else .no) Q := h'
    split at h2
    · rename_i hz
      split at h2
      · rename_i kvs em
        refine ⟨l, S1, rfl, fun ι1 H1 pv g1 sr1 pr => ?_⟩
        obtain ⟨e1, n1⟩ := g1.keep p _ upd_same hn
        obtain ⟨kv, ep, el, pk⟩ := merge_rel pr .nil em
        refine ⟨e1, kv, ep, by rw [el]; exact hz, ?_⟩
        have gg : Gro X.K ι H ι1 (upd H1 p (.dK (mergeK [] kv))) := (g.trans g1).own hp
        have wk : Wk X.K ι1 H1 ι1 (upd H1 p (.dK (mergeK [] kv))) := ⟨⟨[], by simp⟩, fun a ts e => by
          rw [upd_ne (ne_of e e1 (by intro z; cases z))]; exact e⟩
        have sr2 := sr1.offG n1 wk
        obtain ⟨g3, sr3, dr3⟩ := number (o := .dct kvs) gg sr2 hp n1 ⟨_, upd_same, .inl ⟨_, rfl, Paired.mono' pk fun _ _ q => ⟨q.1, q.2.mono wk⟩⟩⟩
        exact h2.use g3 sr3 dr3
      · exact h2.no.elim
    · exact h2.no.elim

/-! ### d.setdefault(k, x) -/
theorem se_setd {o e f : Expr} {mo me mf : M} {apos cpos : Pos} (ho : SE X o mo) (he : SE X e me) (hf : SE X f mf) (m : M2 X o "setdefault" apos e f cpos) : SE X (.Call (.Attribute o "setdefault" apos) [e, f] [] cpos) (eSetd mo me mf) :=
  pe_imp (pe_dsetd ho he hf m) fun σ H Q ⟨ι, s, S, sr, nr, h⟩ => ⟨ι, s, S, sr, nr, bindD h fun d S1 ι1 H1 v g1 sr1 dr1 h1 => by
    split at h1
    · rename_i n
      split at h1
      · rename_i kvs0 e0
        obtain ⟨a, rfl, ia⟩ := dr1.ref
        obtain ⟨u, ha, c⟩ := sr1.obj n _ a e0 ia
        refine ⟨a, rfl, ?_, ι1, s, S1, sr1, nr.mono g1.wk, bindD h1 fun ek S2 ι2 H2 w g2 sr2 dr2 h2 => ⟨ι2, s, S2, sr2, (nr.mono g1.wk).mono g2.wk, bindD h2 fun fv S3 ι3 H3 z g3 sr3 dr3 h3 => ?_⟩⟩
        · rcases c with ⟨kv, rfl, _⟩ | ⟨kv, rfl, _⟩
          · exact .inl ⟨kv, .of ha⟩
          · exact .inr ⟨kv, .of ha⟩
        · have h4 : RQ X.K X.mg ι3 H3 (match S3[n]? with
            | some (.dct kvs) => match keyD ek with
              | some q => if kindOk kvs (.inl q) = true ∧ kvs.isEmpty = false ∧ kvs.length < BIG then match findK kvs (.inl q) with
                  | some v => .ok (.d v) S3
                  | none => .ok (.d fv) (S3.set n (.dct (Ev.putK kvs (.inl q) ek fv)))
                else .no
              | none => .no
            | _ => .no) Q := h3
          split at h4
          · rename_i kvs e3
            split at h4
            · rename_i q eq
              split at h4
              · rename_i hz
                have ia3 : ι3[n]? = some a := g3.wk.get (g2.wk.get ia)
                obtain ⟨u3, ha3, c3⟩ := sr3.obj n _ a e3 ia3
                have ek2 := keyD_kV eq (dr2.mono g3.wk)
                rcases c3 with ⟨kv, rfl, p⟩ | ⟨kv, rfl, p⟩
                · refine ⟨kv, q, ha3, ek2, by rw [← paired_len p]; exact big_lt hz.2.2, fun v hv => ?_, fun hv => ?_⟩
                  · rcases find_l p q with ⟨_, x⟩ | ⟨d', v', x, y, r⟩
                    · rw [x] at hv; cases hv
                    · rw [y] at hv; cases hv
                      rw [x] at h4
                      exact h4.here sr3 r
                  · rcases find_l p q with ⟨x, _⟩ | ⟨d', v', x, y, r⟩
                    · rw [x] at h4
                      have g : Gro X.K ι3 H3 ι3 (upd H3 a (.dK (L2.putK kv q z))) := Gro.put sr3 ia3 (by rw [ha3]; exact True.intro)
                      have h5 : RQ X.K X.mg ι3 H3 (.ok (.d fv) (S3.set n (.dct (Ev.putK kvs (.inl q) ek fv)))) Q := h4
                      refine h5.use g (sr3.put ia3 g ⟨_, upd_same, .inl ⟨_, rfl, ?_⟩⟩) (dr3.mono g.wk)
                      exact Paired.mono' (put_l p eq dr3) fun _ _ q => ⟨q.1, q.2.mono g.wk⟩
                    · rw [y] at hv; cases hv
                · cases p with
                  | nil => exact absurd hz.2.1 (by decide)
                  | cons r t =>
                    obtain ⟨k', e'⟩ := kindOk_r hz.1 r.1
                    cases e'
              · exact h4.no.elim
            · exact h4.no.elim
          · exact h4.no.elim
      · exact h1.no.elim
    · exact h1.no.elim⟩
end
end Ev
/-! EvO: a def as a function on values; what it has made and nobody knows is forgotten at its end -/
namespace Ev
open PySem L2 PyProof.Rows

mutual
/-- all objects of d have numbers below n -/
def clD (n : Nat) : D → Bool
  | .ref m => decide (m < n)
  | .tup ds => clDs n ds
  | .kt ds => clDs n ds
  | _ => true
def clDs (n : Nat) : List D → Bool
  | [] => true
  | d :: ds => clD n d && clDs n ds
end
def clO (n : Nat) : O → Bool
  | .lst ds => clDs n ds
  | .rol ds => clDs n ds
  | .dct kvs => kvs.all fun p => clD n p.2
  | .rod kvs => kvs.all fun p => clD n p.2
  | .ins _ fs => fs.all fun p => clD n p.2
def clX (n : Nat) : XR → Bool
  | .d d => clD n d
  | .tl ds => clDs n ds
def GcOk (S : Sto) (x : XR) (S1 : Sto) : Prop := clX S.length x = true ∧ ∀ (n : Nat) (o : O), n < S.length → S1[n]? = some o → S[n]? = some o ∨ clO S.length o = true
open Classical in
noncomputable def gcR (S : Sto) (x : XR) (S1 : Sto) : R XR := if GcOk S x S1 then .ok x (S1.take S.length) else .ok x S1
/-- a def: np parameters, n names -/
noncomputable def runF (np n : Nat) (b : MS) : List D → Sto → R XR := fun ds S => if ds.length = np then (b (ds.map some ++ List.replicate (n - np) none) S).bind fun f S1 => match f with
  | .nx _ => gcR S (.d .non) S1
  | .ret x => gcR S x S1
  | _ => .no
  else .no
theorem runF_len {np n : Nat} {b : MS} : ∀ ds S, ds.length ≠ np → runF np n b ds S = .no := fun ds S h => by unfold runF; rw [if_neg h]

section
variable {K : PySem.W.Frag} {ι ι' ι0 more : List Addr} {H H' H0 : Hp} {mg : Str → Option Value} {X : Cx}
theorem get_pre {n : Nat} {a : Addr} (h : (ι ++ more)[n]? = some a) (hl : n < ι.length) : ι[n]? = some a := by
  rw [List.getElem?_append_left hl] at h; exact h
mutual
theorem DR.cut : ∀ {d : D} {v : V}, DR K (ι ++ more) H d v → clD ι.length d = true → DR K ι H d v
  | .non, _, h, _ => h
  | .bl _, _, h, _ => h
  | .int _, _, h, _ => h
  | .str _, _, h, _ => h
  | .tup ds, _, h, c => by
    unfold DR at h ⊢
    unfold clD at c
    obtain ⟨a, vs, e, q, r⟩ := h
    exact ⟨a, vs, e, q, DRs.cut r c⟩
  | .kt ds, _, h, c => by
    unfold DR at h ⊢
    unfold clD at c
    obtain ⟨a, vs, e, q, r⟩ := h
    exact ⟨a, vs, e, q, DRs.cut r c⟩
  | .ref n, _, h, c => by
    unfold DR at h ⊢
    unfold clD at c
    obtain ⟨a, e, q⟩ := h
    exact ⟨a, e, get_pre q (of_decide_eq_true c)⟩
theorem DRs.cut : ∀ {ds : List D} {vs : List V}, DRs K (ι ++ more) H ds vs → clDs ι.length ds = true → DRs K ι H ds vs
  | [], _, h, _ => by unfold DRs at h ⊢; exact h
  | d :: ds, _, h, c => by
    unfold DRs at h ⊢
    unfold clDs at c
    rw [Bool.and_eq_true] at c
    obtain ⟨w, ws, e, q, r⟩ := h
    exact ⟨w, ws, e, DR.cut q c.1, DRs.cut r c.2⟩
end
mutual
theorem DR.cl : ∀ {d : D} {v : V}, DR K ι H d v → clD ι.length d = true
  | .non, _, _ => by unfold clD; rfl
  | .bl _, _, _ => by unfold clD; rfl
  | .int _, _, _ => by unfold clD; rfl
  | .str _, _, _ => by unfold clD; rfl
  | .tup ds, _, h => by
    unfold DR at h
    unfold clD
    obtain ⟨a, vs, e, q, r⟩ := h
    exact DRs.cl r
  | .kt ds, _, h => by
    unfold DR at h
    unfold clD
    obtain ⟨a, vs, e, q, r⟩ := h
    exact DRs.cl r
  | .ref n, _, h => by
    unfold DR at h
    unfold clD
    obtain ⟨a, e, q⟩ := h
    exact decide_eq_true (List.getElem?_eq_some_iff.mp q).1
theorem DRs.cl : ∀ {ds : List D} {vs : List V}, DRs K ι H ds vs → clDs ι.length ds = true
  | [], _, _ => by unfold clDs; rfl
  | d :: ds, _, h => by
    unfold DRs at h
    unfold clDs
    obtain ⟨w, ws, e, q, r⟩ := h
    rw [DR.cl q, DRs.cl r]; rfl
end
theorem all_of_paired {α β γ : Type} {F : α → β → Prop} {f : α → Bool} {l : List α} {m : List β} (h : Paired F l m) (k : ∀ a b, F a b → f a = true) : l.all f = true := by
  induction h with
  | nil => rfl
  | cons r _ ih => rw [List.all_cons, k _ _ r, ih]; rfl
theorem DcR.cl {kvs : List (D × D)} {u : HO} (h : DcR K ι H kvs u) : (kvs.all fun p => clD ι.length p.2) = true := by
  rcases h with ⟨kv, _, p⟩ | ⟨kv, _, p⟩
  · exact all_of_paired (γ := Nat) p fun _ _ q => q.2.cl
  · exact all_of_paired (γ := Nat) p fun _ _ q => q.2.cl
theorem OR.cl {o : O} {a : Addr} (h : OR K ι H mg o a) : clO ι.length o = true := by
  cases o with
  | lst ds => obtain ⟨vs, _, r⟩ := h; exact r.cl
  | rol ds => obtain ⟨vs, _, r⟩ := h; exact r.cl
  | dct kvs => obtain ⟨u, _, r⟩ := h; exact r.cl
  | rod kvs => obtain ⟨_, u, _, r⟩ := h; exact r.cl
  | ins c fs => obtain ⟨C, dx, gs, _, _, p⟩ := h; exact all_of_paired (γ := Nat) p fun _ _ q => q.2.cl
theorem paired_cut {α β : Type} {F G : α → β → Prop} {f : α → Bool} {l : List α} {m : List β} (h : Paired F l m) (c : l.all f = true) (k : ∀ a b, f a = true → F a b → G a b) : Paired G l m := by
  induction h with
  | nil => exact .nil
  | cons r _ ih =>
    rw [List.all_cons, Bool.and_eq_true] at c
    exact .cons (k _ _ c.1 r) (ih c.2)
theorem DcR.cut {kvs : List (D × D)} {u : HO} (h : DcR K (ι ++ more) H kvs u) (c : (kvs.all fun p => clD ι.length p.2) = true) : DcR K ι H kvs u := by
  rcases h with ⟨kv, e, p⟩ | ⟨kv, e, p⟩
  · exact .inl ⟨kv, e, paired_cut p c fun _ _ c q => ⟨q.1, q.2.cut c⟩⟩
  · exact .inr ⟨kv, e, paired_cut p c fun _ _ c q => ⟨q.1, q.2.cut c⟩⟩
theorem OR.cut {o : O} {a : Addr} (h : OR K (ι ++ more) H mg o a) (c : clO ι.length o = true) : OR K ι H mg o a := by
  cases o with
  | lst ds => obtain ⟨vs, e, r⟩ := h; exact ⟨vs, e, r.cut c⟩
  | rol ds => obtain ⟨vs, e, r⟩ := h; exact ⟨vs, e, r.cut c⟩
  | dct kvs => obtain ⟨u, e, r⟩ := h; exact ⟨u, e, r.cut c⟩
  | rod kvs => obtain ⟨od, u, e, r⟩ := h; exact ⟨od, u, e, r.cut c⟩
  | ins x fs => obtain ⟨C, dx, gs, m, e, p⟩ := h; exact ⟨C, dx, gs, m, e, paired_cut p c fun _ _ c q => ⟨q.1, q.2.cut c⟩⟩
theorem gc_use {S : Sto} {x : XR} {S1 : Sto} {Q : VK} (sr0 : SR K ι H mg S) (h : RQ K mg ι H (gcR S x S1) Q) {v : V} (g : Gro K ι H ι' H') (sr : SR K ι' H' mg S1) (xr : XRel K ι' H' H x v) : Q v H' := by
  unfold gcR at h
  split at h
  · rename_i ok
    obtain ⟨cx, co⟩ := ok
    obtain ⟨more, rfl⟩ := g.pre
    have hl := sr0.len
    have hl2 : S.length ≤ S1.length := by
      have := sr.len
      rw [List.length_append, hl] at this
      omega
    rw [← hl] at cx co
    refine h.use (ι' := ι) ⟨⟨[], by simp⟩, g.tup, fun a o e n => ⟨(g.keep a o e n).1, n⟩, g.dom, g.frz⟩ ⟨?_, sr0.nd, fun n o a e1 e2 => ?_⟩ ?_
    · rw [List.length_take, Nat.min_eq_left hl2, hl]
    · have hn := (List.getElem?_eq_some_iff.mp e2).1
      rw [List.getElem?_take, if_pos (by omega)] at e1
      have o1 := sr.obj n o a e1 (by rw [List.getElem?_append_left hn]; exact e2)
      refine o1.cut ?_
      rcases co n o hn e1 with q | q
      · exact (sr0.obj n o a q e2).cl
      · exact q
    · cases x with
      | d d => exact DR.cut (show DR K (ι ++ more) H' d v from xr) cx
      | tl ds =>
        obtain ⟨a, vs, e, n0, ha, hn, r⟩ := xr
        exact ⟨a, vs, e, n0, ha, fun z => hn (List.mem_append_left _ z), r.cut cx⟩
  · exact h.use g sr xr

theorem nr_start {N : List Str} {ds : List D} {vs : List V} {np : Nat} (hl : ds.length = np) (r : DRs K ι H ds vs) : NR K ι H (ds.map some ++ List.replicate (N.length - np) none) (L2.start N vs) := by
  unfold L2.start
  rw [r.length, hl]
  refine ⟨by simp [r.length], fun i d e => ?_⟩
  by_cases hi : i < ds.length
  · rw [List.getElem?_append_left (by simpa using hi), List.getElem?_map] at e
    obtain ⟨d', h1, h2⟩ := Option.map_eq_some_iff.mp e
    cases h2
    obtain ⟨v, hv, dv⟩ := r.get h1
    exact ⟨v, by rw [List.getElem?_append_left (by rw [List.length_map, r.length]; exact hi), List.getElem?_map, hv]; rfl, dv⟩
  · rw [List.getElem?_append_right (by simpa using hi), List.getElem?_replicate] at e
    split at e
    · cases e
    · cases e
variable {P : Program} {w : World} {base : Heap}
theorem fn_ev {x qual : Str} {st : Stmt} {f : Addr} {fd : FuncData} {N ps : List Str} {k : Nat} {m : MS} (F : Fun K x qual st f fd) (S : FnScope N ps (defScope st))
    (hb : ∀ (cdv : Value) (A : Around) (outer : List PySem.Env) (s : Shared) (H : Hp) (E : XK), Room k (A.deeper (envOfC qual (defScope st) s.heap.objs.size f cdv)) → SSs (cxOf CX0 P w K mg base N qual (defScope st) f cdv A outer s H E).nox (defBody st) m) :
    FnOk P w K mg base CX0 (k + 1) f fd ps (spF K mg ps.length (runF ps.length N.length m)) := by
  refine F.ok S (fun vs H Q E ⟨ι, ds, S0, sr, dr, hl, _⟩ => by rw [dr.length, hl]) fun cdv A outer s H vs Q E hr ⟨ι, ds, S0, sr, dr, hl, h⟩ => ⟨_, hb cdv A outer s H E hr, ι, _, S0, sr, nr_start hl dr, ?_⟩
  show RS K mg ι H (m (ds.map some ++ List.replicate (N.length - ps.length) none) S0) _
  unfold runF at h
  rw [if_pos hl] at h
  cases q : m (ds.map some ++ List.replicate (N.length - ps.length) none) S0 with
  | no => rw [q] at h; exact (show RQ K mg ι H .no Q from h).no.elim
  | ok f S1 =>
    rw [q] at h
    refine ⟨f, S1, rfl, ?_⟩
    cases f with
    | nx s' => exact fun ι1 H1 σ1 g1 sr1 nr1 => gc_use sr (show RQ K mg ι H (gcR S0 (.d .non) S1) Q from h) g1 sr1 (show DR K ι1 H1 .non .non from rfl)
    | ret x => exact fun ι1 H1 v g1 sr1 xr => gc_use sr (show RQ K mg ι H (gcR S0 x S1) Q from h) g1 sr1 xr
    | bk s' => exact (show RQ K mg ι H .no Q from h).no.elim
    | ct s' => exact (show RQ K mg ι H .no Q from h).no.elim
/-- no list stands in the written part -/
def noList (o : Obj) : Bool := match o.cls with
  | .type x => decide (x ≠ "list")
  | _ => true
theorem noList_of {K : PySem.W.Frag} (h : K.all (fun p => noList p.2) = true) : ∀ {a : Addr} {o : Obj}, K.lookup a = some o → o.cls = .type "list" → False := by
  intro a o hl hc
  induction K with
  | nil => cases hl
  | cons p K ih =>
    obtain ⟨b, o'⟩ := p
    rw [List.all_cons, Bool.and_eq_true] at h
    rw [List.lookup_cons] at hl
    cases e : a == b with
    | true =>
      rw [e] at hl
      cases hl
      have h1 : noList o = true := h.1
      unfold noList at h1
      rw [hc] at h1
      exact absurd h1 (by decide)
    | false => rw [e] at hl; exact ih h.2 hl
/-- what the law promises -/
def spLaw (K : PySem.W.Frag) : Sp := fun vs H Q _ => ∃ (a : Addr) (ns : List Int), vs = [.ref a] ∧ SqL K H a (ns.map V.int) ∧ ns.length ≤ 63 ∧ (∀ z ∈ ns, Builtin.Int.intBits z ≤ 1048576) ∧ ∀ H', Q (.bl true) H'
/-- the law's promise, from its value at all scripts -/
theorem law_ev {f : List D → Sto → R XR} (nl : K.all (fun p => noList p.2) = true) (h : ∀ ns : List Int, ns.length ≤ 63 → (∀ z ∈ ns, Builtin.Int.intBits z ≤ 1048576) → ∃ S', f [.ref 0] [.rol (ns.map .int)] = .ok (.d (.bl true)) S') :
    ∀ vs H Q E, spLaw K vs H Q E → spF K mg 1 f vs H Q E := by
  rintro vs H Q E ⟨a, ns, rfl, hS, hl, hz, k⟩
  have hR : Rd H a (.lst (ns.map V.int)) := by
    rcases hS with q | ⟨o, its, n, q, hc, _⟩
    · exact q
    · exact (noList_of nl q hc).elim
  obtain ⟨S', e⟩ := h ns hl hz
  refine ⟨[a], [.ref 0], [.rol (ns.map .int)], ⟨rfl, by simp, fun n o b e1 e2 => ?_⟩, DRs.cons ?_ DRs.nil, rfl, ?_⟩
  · cases n with
    | zero =>
      cases e1; cases e2
      exact ⟨_, hR, DRs.of_ints⟩
    | succ n => simp at e1
  · unfold DR; exact ⟨a, rfl, rfl⟩
  · rw [e]
    refine RQ.ok fun ι' H' v g sr xr => ?_
    rw [DR.bl (show DR K ι' H' (.bl true) v from xr)]
    exact k H'
end
/-- the end: from the def's promise to the row -/
theorem walk_ev {l : PySem.W.OpenLaw} {q : Program} {loose : List Str} {XP : (Str → Option Value) → Heap → Prop} {YP : World → Heap → Prop} {d : DefRec} {K : Params → PySem.W.Frag} {k : Nat} (hn : l.most = some 63) (hdf : d.params.defaults = []) (hr : Room k callerA)
    (hY : ∀ (w : World) (h : Heap), YP w h → (K w.params).In h)
    (F : ∀ (w : World) (mg : Str → Option Value) (fa : Addr) (h : Heap), (K w.params).In h → h.Ns mainGlobals mg → mg d.name = some (.ref fa) →
      ∃ fd : FuncData, (∀ (s : Shared) (u : Value), BindsTo s fd ⟨[u], []⟩ [("script", u)]) ∧ ∀ base : Heap, (K w.params).In base → base.Ns mainGlobals mg → FnOk l.prog w (K w.params) mg base CX0 k fa fd ["script"] (spLaw (K w.params))) :
    PySem.W.WalkO q loose XP YP l.row.toRowW d [] (fun f vs => PySem.call f vs) :=
  L2.walk_ofB (n := 63) (k := k) (x := "script") (CX := fun _ => CX0) (sp := fun w => spLaw (K w.params)) hn (by rw [sizeLine_eq]; decide) hdf hr hY F (fun _ _ a ns hl hb _ hS => ⟨a, ns, rfl, hS, hl, hb, fun _ => rfl⟩) fun _ _ _ _ _ z => z
end Ev
/-! EvP: short words for derivations that a program prints -/
namespace Ev
open PySem L2 PyProof.Rows

theorem Room_u65 {A : Around} {k : Nat} (r : Room k A) : A.units + 65 < cLine := by have := r.un; omega
theorem Room_u64 {A : Around} {k : Nat} (r : Room k A) : A.units + 64 < cLine := by have := r.un; omega
theorem Room_u1 {A : Around} {k : Nat} (r : Room k A) : A.units + 1 < cLine := by have := r.un; omega
section
variable {K : PySem.W.Frag} {ι ι' ι0 more : List Addr} {H H' H0 : Hp} {mg : Str → Option Value} {X : Cx} {P : Program} {w : World} {base : Heap}
theorem pk_imp {es : List Keyword} {t t' : TA} (h : PK X es t) (k : ∀ σ H Q, t' σ H Q → t σ H Q) : PK X es t' := ⟨fun pos pins s σ H Q I q => h.run pos pins s σ H Q I (k _ _ _ q)⟩
abbrev SKw (X : Cx) (es : List Keyword) (m : MA) : Prop := PK X es (tMA X.K X.mg m)
theorem sk_nil : SKw X [] aNil := pk_imp pk_nil fun σ H Q ⟨ι, s, S, sr, nr, h⟩ => by
  obtain ⟨x, S', e, k⟩ := h
  cases e
  exact k ι H [] Gro.refl sr DRs.nil
theorem sk_cons {nm : Option Str} {e : Expr} {kpos : Pos} {es : List Keyword} {ma : M} {mr : MA} (ha : SE X e ma) (hr : SKw X es mr) : SKw X (⟨nm, e, kpos⟩ :: es) (aCons ma mr) :=
  pk_imp (pk_cons ha hr) fun σ H Q ⟨ι, s, S, sr, nr, h⟩ => ⟨ι, s, S, sr, nr, bindDA h fun d S1 ι1 H1 v g1 sr1 dr1 h1 => ⟨ι1, s, S1, sr1, nr.mono g1.wk, bindAA h1 fun ds S2 ι2 H2 vs g2 sr2 dr2 h2 => by
    obtain ⟨x, S', e, k⟩ := h2
    cases e
    exact k ι2 H2 (v :: vs) Gro.refl sr2 (DRs.cons (dr1.mono g2.wk) dr2)⟩⟩
theorem fnok_no {f : Addr} {fd : FuncData} {ps : List Str} {k np : Nat} (hl : np = ps.length) : FnOk P w K mg base CX0 k f fd ps (spF K mg np fun _ _ => .no) :=
  ⟨fun vs H Q E ⟨_, _, _, _, dr, l, _⟩ => by rw [dr.length, l, hl], fun A outer s H args us vs Q E _ _ _ _ ⟨_, _, _, _, _, _, h⟩ => h.no.elim⟩
/-! built-ins with one argument, two ints -/
section
variable {e a b : Expr} {p pos : Pos} {ma mb : M}
theorem b_len (hg : Gl X "len") (hm : X.mg "len" = none) (ha : SE X e ma) (he : starEach [e] X.env = (false, eval e X.env) :: starEach [] X.env) : SE X (.Call (.Name "len" p) [e] [] pos) (eBi1 bLen ma) := se_bi1 (id := "len") bi_len callR_len hg hm rfl ha (by decide) (by decide) he
theorem b_all (hc : X.calm = true) (hg : Gl X "all") (hm : X.mg "all" = none) (ha : SE X e ma) (he : starEach [e] X.env = (false, eval e X.env) :: starEach [] X.env) : SE X (.Call (.Name "all" p) [e] [] pos) (eBi1 bAll ma) := se_bi1 (id := "all") bi_all (cr_all hc) hg hm rfl ha (by decide) (by decide) he
theorem b_any (hc : X.calm = true) (hg : Gl X "any") (hm : X.mg "any" = none) (ha : SE X e ma) (he : starEach [e] X.env = (false, eval e X.env) :: starEach [] X.env) : SE X (.Call (.Name "any" p) [e] [] pos) (eBi1 bAny ma) := se_bi1 (id := "any") bi_any (cr_any hc) hg hm rfl ha (by decide) (by decide) he
theorem b_sum (hc : X.calm = true) (hg : Gl X "sum") (hm : X.mg "sum" = none) (ha : SE X e ma) (he : starEach [e] X.env = (false, eval e X.env) :: starEach [] X.env) : SE X (.Call (.Name "sum" p) [e] [] pos) (eBi1 bSum ma) := se_bi1 (id := "sum") bi_sum (cr_sum hc) hg hm rfl ha (by decide) (by decide) he
theorem b_abs (hg : Gl X "abs") (hm : X.mg "abs" = none) (ha : SE X e ma) (he : starEach [e] X.env = (false, eval e X.env) :: starEach [] X.env) : SE X (.Call (.Name "abs" p) [e] [] pos) (eBi1 bAbs ma) := se_bi1 (id := "abs") bi_abs call_abs hg hm rfl ha (by decide) (by decide) he
theorem b_sorted (hg : Gl X "sorted") (hm : X.mg "sorted" = none) (ha : SE X e ma) (he : starEach [e] X.env = (false, eval e X.env) :: starEach [] X.env) : SE X (.Call (.Name "sorted" p) [e] [] pos) (eBi1 bSortX ma) := se_bi1 (id := "sorted") bi_sortX cr_sortX hg hm rfl ha (by decide) (by decide) he
theorem b_int (hg : Gl X "int") (hm : X.mg "int" = none) (ha : SE X e ma) (he : starEach [e] X.env = (false, eval e X.env) :: starEach [] X.env) : SE X (.Call (.Name "int" p) [e] [] pos) (eBi1 bInt ma) := se_ty1 (T := "int") bi_int call_int1 hg hm rfl ha (by decide) (by decide) he
theorem b_tuple (hg : Gl X "tuple") (hm : X.mg "tuple" = none) (ha : SE X e ma) (he : starEach [e] X.env = (false, eval e X.env) :: starEach [] X.env) : SE X (.Call (.Name "tuple" p) [e] [] pos) (eBi1 bTuple ma) := se_ty1 (T := "tuple") bi_tuple call_tuple_of hg hm rfl ha (by decide) (by decide) he
theorem b_list (hg : Gl X "list") (hm : X.mg "list" = none) (ha : SE X e ma) (he : starEach [e] X.env = (false, eval e X.env) :: starEach [] X.env) : SE X (.Call (.Name "list" p) [e] [] pos) (eBi1 bList ma) := se_ty1 (T := "list") bi_list call_list_of hg hm rfl ha (by decide) (by decide) he
theorem b_max (hc : X.calm = true) (hg : Gl X "max") (hm : X.mg "max" = none) (ha : SE X a ma) (hb : SE X b mb) (he : starEach [a, b] X.env = (false, eval a X.env) :: starEach [b] X.env) (he2 : starEach [b] X.env = (false, eval b X.env) :: starEach [] X.env) : SE X (.Call (.Name "max" p) [a, b] [] pos) (eOp bMax2 ma mb) := se_bi2 (id := "max") bi_max2 (call_max2 hc) hg hm rfl ha hb (by decide) (by decide) he he2
theorem b_min (hc : X.calm = true) (hg : Gl X "min") (hm : X.mg "min" = none) (ha : SE X a ma) (hb : SE X b mb) (he : starEach [a, b] X.env = (false, eval a X.env) :: starEach [b] X.env) (he2 : starEach [b] X.env = (false, eval b X.env) :: starEach [] X.env) : SE X (.Call (.Name "min" p) [a, b] [] pos) (eOp bMin2 ma mb) := se_bi2 (id := "min") bi_min2 (call_min2 hc) hg hm rfl ha hb (by decide) (by decide) he he2
end
/-- name += e -/
def ipAddD (d e : D) (S : Sto) : R XR := match d, e with
  | .int i, .int j => .ok (.d (.int (i + j))) S
  | _, _ => .no
theorem ss_add {i : Nat} {x : Str} {e : Expr} {pos pos' : Pos} {m : M} (hN : X.N.Nodup) (hi : X.N[i]? = some x) (hx : Loc X.env.scope x) (he : SE X e m) (hf : X.fn x = true ∨ X.env.scope.names.lookup x = some .local) :
    SS X (.AugAssign (.Name x pos') .Add e pos) (sAug i ipAddD m) := ss_aug hN hi hx he ip_add sIpAdd hf
/-- a module's constants -/
theorem gl_str {x z : Str} {t : Tok} {pos : Pos} (hg : Gl X x) (hm : X.mg x = some (.str z t)) (hd : (x == ("__debug__" : Str)) = false) : SE X (.Name x pos) (eC (.str z)) := se_glob (v := .str z) hg hm ⟨t, rfl⟩ (fun _ _ => rfl) hd
theorem gl_int {x : Str} {i : Int} {t : Tok} {pos : Pos} (hg : Gl X x) (hm : X.mg x = some (.int i t)) (hd : (x == ("__debug__" : Str)) = false) : SE X (.Name x pos) (eC (.int i)) := se_glob (v := .int i) hg hm ⟨t, rfl⟩ (fun _ _ => rfl) hd
theorem gl_tup1 {x z : Str} {a : Addr} {o : Obj} {t : Tok} {n : Nat} {pos : Pos} (hg : Gl X x) (hm : X.mg x = some (.ref a)) (ho : X.K.lookup a = some o) (hc : o.cls = .type "tuple") (hd0 : o.data = .seq #[.str z t] n) (hd : (x == ("__debug__" : Str)) = false) : SE X (.Name x pos) (eC (.kt [.str z])) :=
  se_glob (v := .ref a) hg hm rfl (fun ι H => by
    unfold DR
    exact ⟨a, [.str z], rfl, fun H' => .inr ⟨o, _, n, ho, hc, hd0, by rw [sizeLine_eq]; show 1 ≤ 16777216; decide, .cons ⟨t, rfl⟩ .nil⟩, DRs.cons rfl DRs.nil⟩) hd
theorem ss_setLc' {i : Nat} {y : Str} {py : Pos} {elt tg iter : Expr} {ifs : List Expr} {scope : Scope} {own : List (Str × Nat)} {pos spos : Pos} {mi : MI} {g : MG} {ws : List Nat} {tt : MT} {te : M} (hc : X.calm = true) (hN : X.N.Nodup) (hi : SI X tg iter mi) (ok : BlkOk X.N X.env.scope scope own)
    (hg : ∀ (s : Shared) (H : Hp) (C : Addr) (cl : List (Str × Addr)) (fp : List Addr), SG (X.blk s H scope (compEnvC scope cl C X.env) fp) tg ws g) (ht : ∀ (s : Shared) (H : Hp) (C : Addr) (cl : List (Str × Addr)) (fp : List Addr), STs (X.blk s H scope (compEnvC scope cl C X.env) fp) ifs tt)
    (he : ∀ (s : Shared) (H : Hp) (C : Addr) (cl : List (Str × Addr)) (fp : List Addr), SE (X.blk s H scope (compEnvC scope cl C X.env) fp) elt te) (hw : ∀ j ∈ ws, j ∈ own.map (·.2)) (hs : ∀ x, foldedSetIterable iter X.env x = pure x) (hy : X.N[i]? = some y) (hyl : X.env.scope.names.lookup y = some .local)
    (hsw : swapsWith (.ListComp elt [⟨tg, iter, ifs, 0⟩] scope pos) (some (.Name y py)) spos.line X.env = pure true) :
    SS X (.Assign [.Name y py] (.ListComp elt [⟨tg, iter, ifs, 0⟩] scope pos) spos) (sAsg (eComp mi g tt te (own.map (·.2))) (gNm i)) := ss_setLc hc hN hy hyl hsw hi ok hg ht he hw hs
end
end Ev
/-! EvQ: what evaluations give, as equations -/
namespace Ev
open PySem L2 PyProof.Rows

theorem bind_ok {α β : Type} {a : α} {S : Sto} {k : α → Sto → R β} : (R.ok a S).bind k = k a S := by cases S <;> rfl
theorem bind_no {α β : Type} {k : α → Sto → R β} : (R.no : R α).bind k = .no := rfl
theorem force_d {d : D} {S : Sto} : force (.ok (.d d) S) = .ok d S := by cases S <;> rfl
theorem force_tl {ds : List D} {S : Sto} : force (.ok (.tl ds) S) = .ok (.ref S.length) (S ++ [.lst ds]) := by cases S <;> rfl
theorem force_no : force .no = .no := rfl
theorem gcR_same {S : Sto} {x : XR} : gcR S x S = .ok x S := by
  unfold gcR
  split
  · rw [List.take_length]
  · rfl
/-- what was made is forgotten -/
theorem gcR_app {S E : Sto} {x : XR} (h : clX S.length x = true) : gcR S x (S ++ E) = .ok x S := by
  unfold gcR
  rw [if_pos ⟨h, fun n o hn e => .inl (by rw [List.getElem?_append_left hn] at e; exact e)⟩, List.take_left]
/-- the object b alone was changed -/
theorem gcR_set {S S1 : Sto} {x : XR} {b : Nat} {o : O} (h : clX S.length x = true) (hl : S.length ≤ S1.length) (hb : S1[b]? = some o) (ho : clO S.length o = true) (hs : ∀ n, n < S.length → n ≠ b → S1[n]? = S[n]?) (hbl : b < S.length) : gcR S x S1 = .ok x (S.set b o) := by
  unfold gcR
  rw [if_pos]
  · congr 1
    apply List.ext_getElem?
    intro n
    rw [List.getElem?_take]
    by_cases hn : n < S.length
    · rw [if_pos hn]
      by_cases e : n = b
      · subst e; rw [hb, List.getElem?_set_self hn]
      · rw [hs n hn e, List.getElem?_set_ne (Ne.symm e)]
    · rw [if_neg hn, List.getElem?_eq_none (by rw [List.length_set]; omega)]
  · refine ⟨h, fun n o' hn e => ?_⟩
    by_cases en : n = b
    · subst en
      rw [hb] at e; cases e
      exact .inr ho
    · rw [hs n hn en] at e; exact .inl e
theorem kit_ii : kitB "int" "int" = some true := by decide +kernel
theorem kit_ib : kitB "int" "bool" = some false := by decide +kernel
theorem kit_is : kitB "int" "str" = some false := by decide +kernel
theorem kit_it : kitB "int" "tuple" = some false := by decide +kernel
theorem kit_il : kitB "int" "list" = some false := by decide +kernel
theorem kit_ss : kitB "str" "str" = some true := by decide +kernel
theorem kit_si : kitB "str" "int" = some false := by decide +kernel
theorem kit_sb : kitB "str" "bool" = some false := by decide +kernel
theorem kit_st : kitB "str" "tuple" = some false := by decide +kernel
theorem kit_sl : kitB "str" "list" = some false := by decide +kernel
theorem kit_tt : kitB "tuple" "tuple" = some true := by decide +kernel
theorem kit_ti : kitB "tuple" "int" = some false := by decide +kernel
theorem kit_tb : kitB "tuple" "bool" = some false := by decide +kernel
theorem kit_ts : kitB "tuple" "str" = some false := by decide +kernel
theorem kit_tl : kitB "tuple" "list" = some false := by decide +kernel
theorem kit_ll : kitB "list" "list" = some true := by decide +kernel
theorem kit_li : kitB "list" "int" = some false := by decide +kernel
theorem kit_lb : kitB "list" "bool" = some false := by decide +kernel
theorem kit_ls : kitB "list" "str" = some false := by decide +kernel
theorem kit_lt : kitB "list" "tuple" = some false := by decide +kernel
theorem kit_bb : kitB "bool" "bool" = some true := by decide +kernel
theorem kit_bi : kitB "bool" "int" = some true := by decide +kernel
theorem kit_ni : kitB "NoneType" "int" = some false := by decide +kernel
theorem kit_nb : kitB "NoneType" "bool" = some false := by decide +kernel
theorem kit_ns : kitB "NoneType" "str" = some false := by decide +kernel
theorem kit_nt : kitB "NoneType" "tuple" = some false := by decide +kernel
theorem kit_nl : kitB "NoneType" "list" = some false := by decide +kernel
theorem ty_non {S : Sto} : tyName .non S = some "NoneType" := rfl
theorem ty_bl {b : Bool} {S : Sto} : tyName (.bl b) S = some "bool" := rfl
theorem ty_int {b : Int} {S : Sto} : tyName (.int b) S = some "int" := rfl
theorem ty_str {b : Str} {S : Sto} : tyName (.str b) S = some "str" := rfl
theorem ty_tup {b : List D} {S : Sto} : tyName (.tup b) S = some "tuple" := rfl
theorem ty_lst {n : Nat} {b : List D} {S : Sto} (h : S[n]? = some (.lst b)) : tyName (.ref n) S = some "list" := by
  show (match S[n]? with | some (.lst _) => some "list" | some (.rol _) => some "list" | some (.dct _) => some "dict" | _ => none) = _
  rw [h]
theorem leD_int {a b : Int} {S : Sto} : leD (.int a) (.int b) S = .ok (.d (.bl (decide (a ≤ b)))) S := rfl
theorem geD_int {a b : Int} {S : Sto} : geD (.int a) (.int b) S = .ok (.d (.bl (decide (b ≤ a)))) S := rfl
theorem ltD_int {a b : Int} {S : Sto} : ltD (.int a) (.int b) S = .ok (.d (.bl (decide (a < b)))) S := rfl
theorem gtD_int {a b : Int} {S : Sto} : gtD (.int a) (.int b) S = .ok (.d (.bl (decide (b < a)))) S := rfl
theorem addD_int {a b : Int} {S : Sto} : addD (.int a) (.int b) S = .ok (.d (.int (a + b))) S := rfl
theorem addD_tup {a b : List D} {S : Sto} (h : a.length + b.length ≤ BIG) : addD (.tup a) (.tup b) S = .ok (.d (.tup (a ++ b))) S := if_pos h
theorem addD_str {a b : Str} {S : Sto} (h : a.length + b.length ≤ BIG) : addD (.str a) (.str b) S = .ok (.d (.str (a ++ b))) S := if_pos h
theorem subD_int {a b : Int} {S : Sto} : subD (.int a) (.int b) S = .ok (.d (.int (a - b))) S := rfl
theorem isD_non {d : D} {S : Sto} : isD d .non S = .ok (.d (.bl (isNon d))) S := by
  cases d <;> rfl
theorem isNotD_non {d : D} {S : Sto} : isNotD d .non S = .ok (.d (.bl (!isNon d))) S := by
  cases d <;> rfl
theorem isD_bl {a b : Bool} {S : Sto} : isD (.bl a) (.bl b) S = .ok (.d (.bl (decide (a = b)))) S := rfl
theorem non_non : isNon .non = true := rfl
theorem non_bl {b : Bool} : isNon (.bl b) = false := rfl
theorem non_int {b : Int} : isNon (.int b) = false := rfl
theorem non_str {b : Str} : isNon (.str b) = false := rfl
theorem non_tup {b : List D} : isNon (.tup b) = false := rfl
theorem non_ref {b : Nat} : isNon (.ref b) = false := rfl
theorem eqD_int {a b : Int} {S : Sto} : eqD (.int a) (.int b) S = .ok (.d (.bl (a == b))) S := rfl
theorem neD_int {a b : Int} {S : Sto} : neD (.int a) (.int b) S = .ok (.d (.bl (!(a == b)))) S := rfl
theorem eqD_bl {a b : Bool} {S : Sto} : eqD (.bl a) (.bl b) S = .ok (.d (.bl (a == b))) S := rfl
/-! loops -/
/-- one turn of a for -/
def forB (g : MG) (b : MS) : D → MS := fun d s S => (g d s S).bind fun s1 S1 => b s1 S1
theorem sFor_eq {mi : MI} {g : MG} {b : MS} {s : Env} {S : Sto} : sFor mi g b s S = (mi s S).bind fun w S1 => loopF w.chk (forB g b) w.xs s S1 := rfl
theorem lp_nil {body : D → MS} {s : Env} {S : Sto} : loopF (fun _ => True) body [] s S = .ok (.nx s) S := guardS_true
theorem lp_cons {body : D → MS} {d : D} {ds : List D} {s : Env} {S : Sto} : loopF (fun _ => True) body (d :: ds) s S = (body d s S).bind fun f S1 => match f with
    | .nx s1 => loopF (fun _ => True) body ds s1 S1
    | .ct s1 => loopF (fun _ => True) body ds s1 S1
    | .bk s1 => .ok (.nx s1) S1
    | .ret x => .ok (.ret x) S1 := guardS_true
theorem lp_nilC {chk : Sto → Prop} {body : D → MS} {s : Env} {S : Sto} (h : chk S) : loopF chk body [] s S = .ok (.nx s) S := guardS_pos h
theorem lp_consC {chk : Sto → Prop} {body : D → MS} {d : D} {ds : List D} {s : Env} {S : Sto} (h : chk S) : loopF chk body (d :: ds) s S = (body d s S).bind fun f S1 => match f with
    | .nx s1 => loopF chk body ds s1 S1
    | .ct s1 => loopF chk body ds s1 S1
    | .bk s1 => .ok (.nx s1) S1
    | .ret x => .ok (.ret x) S1 := guardS_pos h
/-- comprehensions -/
theorem eComp_eq {mi : MI} {g : MG} {tt : MT} {te : M} {vs : List Nat} {s : Env} {S : Sto} : eComp mi g tt te vs s S = (mi s S).bind fun w S1 => (loopC w.chk g tt te (wipeE s vs) w.xs [] S1).bind fun acc S2 => .ok (.tl acc) S2 := rfl
/-- each item gives a value, nothing is changed -/
theorem lc_all {chk : Sto → Prop} {g : MG} {te : M} {s0 : Env} {S : Sto} (hc : chk S) (f : D → D) : ∀ (ds acc : List D), acc.length + ds.length ≤ BIG → (∀ d ∈ ds, ∃ s1, g d s0 S = .ok s1 S ∧ force (te s1 S) = .ok (f d) S) → loopC chk g tYesM te s0 ds acc S = .ok (acc ++ ds.map f) S
  | [], acc, _, _ => by
    show guardS (chk S) (.ok acc S) = _
    rw [guardS_pos hc, List.map_nil, List.append_nil]
  | d :: ds, acc, hl, h => by
    obtain ⟨s1, e1, e2⟩ := h d (List.mem_cons_self ..)
    show guardS (chk S) ((g d s0 S).bind fun s1 S1 => (tYesM s1 S1).bind fun b S2 => if b = true then (force (te s1 S2)).bind fun y S3 => if acc.length < BIG then loopC chk g tYesM te s0 ds (acc ++ [y]) S3 else .no else loopC chk g tYesM te s0 ds acc S2) = _
    rw [guardS_pos hc, e1]
    show (if true = true then (force (te s1 S)).bind fun y S3 => if acc.length < BIG then loopC chk g tYesM te s0 ds (acc ++ [y]) S3 else .no else loopC chk g tYesM te s0 ds acc S) = _
    rw [if_pos rfl, e2]
    show (if acc.length < BIG then loopC chk g tYesM te s0 ds (acc ++ [f d]) S else .no) = _
    rw [List.length_cons] at hl
    rw [if_pos (by omega), lc_all hc f ds (acc ++ [f d]) (by rw [List.length_append, List.length_singleton]; omega) fun e he => h e (List.mem_cons_of_mem _ he), List.append_assoc, List.map_cons]
    rfl
/-- .. those that a test lets pass -/
theorem lc_sel {chk : Sto → Prop} {g : MG} {tt : MT} {te : M} {s0 : Env} {S : Sto} (hc : chk S) (p : D → Bool) (f : D → D) : ∀ (ds acc : List D), acc.length + ds.length ≤ BIG → (∀ d ∈ ds, ∃ s1, g d s0 S = .ok s1 S ∧ tt s1 S = .ok (p d) S ∧ (p d = true → force (te s1 S) = .ok (f d) S)) →
    loopC chk g tt te s0 ds acc S = .ok (acc ++ (ds.filter p).map f) S
  | [], acc, _, _ => by
    show guardS (chk S) (.ok acc S) = _
    rw [guardS_pos hc, List.filter_nil, List.map_nil, List.append_nil]
  | d :: ds, acc, hl, h => by
    obtain ⟨s1, e1, e2, e3⟩ := h d (List.mem_cons_self ..)
    rw [List.length_cons] at hl
    show guardS (chk S) ((g d s0 S).bind fun s1 S1 => (tt s1 S1).bind fun b S2 => if b = true then (force (te s1 S2)).bind fun y S3 => if acc.length < BIG then loopC chk g tt te s0 ds (acc ++ [y]) S3 else .no else loopC chk g tt te s0 ds acc S2) = _
    rw [guardS_pos hc, e1]
    show ((tt s1 S).bind fun b S2 => if b = true then (force (te s1 S2)).bind fun y S3 => if acc.length < BIG then loopC chk g tt te s0 ds (acc ++ [y]) S3 else .no else loopC chk g tt te s0 ds acc S2) = _
    rw [e2]
    show (if p d = true then (force (te s1 S)).bind fun y S3 => if acc.length < BIG then loopC chk g tt te s0 ds (acc ++ [y]) S3 else .no else loopC chk g tt te s0 ds acc S) = _
    cases hp : p d with
    | true =>
      rw [if_pos rfl, e3 hp]
      show (if acc.length < BIG then loopC chk g tt te s0 ds (acc ++ [f d]) S else .no) = _
      rw [if_pos (by omega), lc_sel hc p f ds (acc ++ [f d]) (by rw [List.length_append, List.length_singleton]; omega) fun e he => h e (List.mem_cons_of_mem _ he), List.append_assoc, List.filter_cons_of_pos hp, List.map_cons]
      rfl
    | false =>
      rw [if_neg Bool.false_ne_true, lc_sel hc p f ds acc (by omega) fun e he => h e (List.mem_cons_of_mem _ he), List.filter_cons_of_neg (by rw [hp]; decide)]
theorem ixd_tup {ds : List D} {i : Int} {S : Sto} : ixD (.tup ds) (.int i) S = optR (atI ds i) S := rfl
theorem ixd_lst {n : Nat} {ds : List D} {i : Int} {S : Sto} (h : S[n]? = some (.lst ds)) : ixD (.ref n) (.int i) S = optR (atI ds i) S := by
  have : listAt S n = some ds := by unfold listAt; rw [h]
  unfold ixD
  simp only [this]
theorem optR_some {d : D} {S : Sto} : optR (some d) S = .ok (.d d) S := rfl
theorem walk_tup {ds : List D} {S : Sto} : walkX (.d (.tup ds)) S = .ok ⟨ds, fun _ => True⟩ S := rfl
theorem walk_tl {ds : List D} {S : Sto} : walkX (.tl ds) S = .ok ⟨ds, fun _ => True⟩ S := rfl
theorem walk_str {z : Str} {S : Sto} : walkX (.d (.str z)) S = .ok ⟨sigsOf z, fun _ => True⟩ S := rfl
theorem at_nat {α : Type} {ds : List α} {i : Nat} : atI ds (i : Int) = ds[i]? := by
  unfold atI ixN
  rw [if_pos (Int.natCast_nonneg i)]
  by_cases h : i < ds.length
  · rw [if_pos (by omega), Int.toNat_natCast]; rfl
  · rw [if_neg (by omega), List.getElem?_eq_none (by omega)]; rfl
theorem at0 {α : Type} {d : α} {ds : List α} : atI (d :: ds) 0 = some d := at_nat (i := 0)
theorem at1 {α : Type} {d e : α} {ds : List α} : atI (d :: e :: ds) 1 = some e := at_nat (i := 1)
theorem at2 {α : Type} {d e f : α} {ds : List α} : atI (d :: e :: f :: ds) 2 = some f := at_nat (i := 2)
theorem at3 {α : Type} {d e f g : α} {ds : List α} : atI (d :: e :: f :: g :: ds) 3 = some g := at_nat (i := 3)
theorem cst0 : ((0 : Nat) : Int) = 0 := rfl
theorem cst1 : ((1 : Nat) : Int) = 1 := rfl
theorem cst2 : ((2 : Nat) : Int) = 2 := rfl
theorem cst3 : ((3 : Nat) : Int) = 3 := rfl
theorem cst4 : ((4 : Nat) : Int) = 4 := rfl
theorem cst5 : ((5 : Nat) : Int) = 5 := rfl
theorem cst6 : ((6 : Nat) : Int) = 6 := rfl
theorem bg0 : (0 ≤ BIG) = True := by decide
theorem bg1 : (1 ≤ BIG) = True := by decide
theorem bg2 : (2 ≤ BIG) = True := by decide
theorem bg3 : (3 ≤ BIG) = True := by decide
theorem bg4 : (4 ≤ BIG) = True := by decide
theorem bg5 : (5 ≤ BIG) = True := by decide
theorem len_tup {ds : List D} {S : Sto} : bLen (.d (.tup ds)) S = .ok (.d (.int (ds.length : Nat))) S := rfl
theorem len_tl {ds : List D} {S : Sto} : bLen (.tl ds) S = .ok (.d (.int (ds.length : Nat))) S := rfl
theorem len_str {z : Str} {S : Sto} (h : z.length ≤ BIG) : bLen (.d (.str z)) S = .ok (.d (.int (z.length : Nat))) S := if_pos h
theorem len_lst {n : Nat} {ds : List D} {S : Sto} (h : S[n]? = some (.lst ds)) : bLen (.d (.ref n)) S = .ok (.d (.int (ds.length : Nat))) S := by
  have : listAt S n = some ds := by unfold listAt; rw [h]
  unfold bLen
  simp only [h, this]
theorem tuple_tl {ds : List D} {S : Sto} : bTuple (.tl ds) S = .ok (.d (.tup ds)) S := rfl
theorem tuple_lst {n : Nat} {ds : List D} {S : Sto} (h : S[n]? = some (.lst ds)) : bTuple (.d (.ref n)) S = .ok (.d (.tup ds)) S := by
  show (match listAt S n with | some ds => R.ok (XR.d (.tup ds)) S | none => .no) = _
  rw [show listAt S n = some ds from by unfold listAt; rw [h]]
theorem blsD_map {α : Type} (f : α → Bool) : ∀ l : List α, blsD (l.map fun a => .bl (f a)) = some (l.map f)
  | [] => rfl
  | a :: l => by
    rw [List.map_cons]
    show (blsD (l.map fun a => .bl (f a))).map (f a :: ·) = _
    rw [blsD_map f l]; rfl
theorem all_tl {α : Type} (f : α → Bool) (l : List α) {S : Sto} : bAll (.tl (l.map fun a => .bl (f a))) S = .ok (.d (.bl (l.all f))) S := by
  show blR ((blsD (l.map fun a => .bl (f a))).map (·.all id)) S = _
  rw [blsD_map]
  show R.ok (XR.d (.bl ((l.map f).all id))) S = _
  rw [List.all_map]
  rfl
theorem listAt_lst {n : Nat} {ds : List D} {S : Sto} (h : S[n]? = some (.lst ds)) : listAt S n = some ds := by unfold listAt; rw [h]
theorem walk_lst {n : Nat} {ds : List D} {S : Sto} (h : S[n]? = some (.lst ds)) : walkX (.d (.ref n)) S = .ok ⟨ds, fun S' => listAt S' n = some ds⟩ S := by
  show (match listAt S n with | some ds => R.ok (⟨ds, fun S' => listAt S' n = some ds⟩ : WK) S | none => .no) = _
  rw [listAt_lst h]
end Ev
namespace K0
open PySem L2 PyProof.Rows Ev
def top (i : Nat) : Stmt := PySem.Challenge.pw_escapechains_k00_readers_with_several_ki.main.body.getD i (.Pass ⟨0, 0, 0, 0⟩)
def isCls (c : Str) : Bool := decide (c = "Reader")
/-! is_integer: level 1 -/
abbrev s_is_integer : Stmt := (top 21)
def N_is_integer : List Str := ["value"]
noncomputable def b_is_integer : MS :=
    (sSeq (sRet (eAndM (eIsi "int" (eV 0)) (eNotM (eIsi "bool" (eV 0)))))
    sNext)
noncomputable def f_is_integer : List D → Sto → R XR := runF 1 1 b_is_integer
/-! is_between: level 2 -/
abbrev s_is_between : Stmt := (top 22)
def N_is_between : List Str := ["value", "low", "high"]
noncomputable def b_is_between : MS :=
    (sSeq (sRet (eAndM (eCall f_is_integer (aCons (eV 0) aNil)) (eChain leD leD (eV 1) (eV 0) (eV 2))))
    sNext)
noncomputable def f_is_between : List D → Sto → R XR := runF 3 3 b_is_between
/-! is_tuple: level 1 -/
abbrev s_is_tuple : Stmt := (top 23)
def N_is_tuple : List Str := ["value", "length"]
noncomputable def b_is_tuple : MS :=
    (sSeq (sRet (eAndM (eIsi "tuple" (eV 0)) (eOp eqD (eBi1 bLen (eV 0)) (eV 1))))
    sNext)
noncomputable def f_is_tuple : List D → Sto → R XR := runF 2 2 b_is_tuple
/-! is_tuple_up_to: level 1 -/
abbrev s_is_tuple_up_to : Stmt := (top 24)
def N_is_tuple_up_to : List Str := ["value", "low", "high"]
noncomputable def b_is_tuple_up_to : MS :=
    (sSeq (sRet (eAndM (eIsi "tuple" (eV 0)) (eChain leD leD (eV 1) (eBi1 bLen (eV 0)) (eV 2))))
    sNext)
noncomputable def f_is_tuple_up_to : List D → Sto → R XR := runF 3 3 b_is_tuple_up_to
/-! is_ascending: level 1 -/
abbrev s_is_ascending : Stmt := (top 25)
def N_is_ascending : List Str := ["items", "at"]
noncomputable def c_is_ascending_0 : M := eComp (iRange1 (eOp subD (eBi1 bLen (eV 0)) (eC (.int 1)))) (gNm 1) tYesM (eOp ltD (eOp ixD (eV 0) (eV 1)) (eOp ixD (eV 0) (eOp addD (eV 1) (eC (.int 1))))) [1]
noncomputable def b_is_ascending : MS :=
    (sSeq (sRet (eBi1 bAll c_is_ascending_0))
    sNext)
noncomputable def f_is_ascending : List D → Sto → R XR := runF 1 2 b_is_ascending
/-! is_set: level 3 -/
abbrev s_is_set : Stmt := (top 26)
def N_is_set : List Str := ["value", "many", "item"]
noncomputable def c_is_set_0 : M := eComp (iAny (eV 0)) (gNm 2) tYesM (eCall f_is_between (aCons (eV 2) (aCons (eC (.int 0)) (aCons (eOp subD (eV 1) (eC (.int 1))) aNil)))) [2]
noncomputable def b_is_set : MS :=
    (sSeq (sIf (tOrM (tNotM (tTru (eIsi "tuple" (eV 0)))) (tNotM (tTru (eBi1 bAll c_is_set_0)))) (sSeq (sRet (eC (.bl false)))
    sNext) sNext)
    (sSeq (sRet (eCall f_is_ascending (aCons (eV 0) aNil)))
    sNext))
noncomputable def f_is_set : List D → Sto → R XR := runF 2 3 b_is_set
/-! is_many: level 3 -/
abbrev s_is_many : Stmt := (top 27)
def N_is_many : List Str := ["value"]
noncomputable def b_is_many : MS :=
    (sSeq (sRet (eCall f_is_between (aCons (eV 0) (aCons (eC (.int 2)) (aCons (eC (.int 6)) aNil)))))
    sNext)
noncomputable def f_is_many : List D → Sto → R XR := runF 1 1 b_is_many
/-! is_sign: level 1 -/
abbrev s_is_sign : Stmt := (top 28)
def N_is_sign : List Str := ["many", "value"]
noncomputable def b_is_sign : MS :=
    (sSeq (sRet (eAndM (eIsi "str" (eV 1)) (eAndM (eOp eqD (eBi1 bLen (eV 1)) (eC (.int 1))) (eOp inD (eV 1) (eSl (eC (.str "abcdef")) none (some (eV 0)))))))
    sNext)
noncomputable def f_is_sign : List D → Sto → R XR := runF 2 2 b_is_sign
/-! is_text_up_to: level 1 -/
abbrev s_is_text_up_to : Stmt := (top 29)
def N_is_text_up_to : List Str := ["many", "value", "length", "sign"]
noncomputable def c_is_text_up_to_0 : M := eComp (iAny (eV 1)) (gNm 3) tYesM (eOp inD (eV 3) (eSl (eC (.str "abcdef")) none (some (eV 0)))) [3]
noncomputable def b_is_text_up_to : MS :=
    (sSeq (sIf (tOrM (tNotM (tTru (eIsi "str" (eV 1)))) (tVal (eOp gtD (eBi1 bLen (eV 1)) (eV 2)))) (sSeq (sRet (eC (.bl false)))
    sNext) sNext)
    (sSeq (sRet (eBi1 bAll c_is_text_up_to_0))
    sNext))
noncomputable def f_is_text_up_to : List D → Sto → R XR := runF 3 4 b_is_text_up_to
/-! is_text: level 2 -/
abbrev s_is_text : Stmt := (top 30)
def N_is_text : List Str := ["many", "value"]
noncomputable def b_is_text : MS :=
    (sSeq (sRet (eCall f_is_text_up_to (aCons (eV 0) (aCons (eV 1) (aCons (eC (.int 400)) aNil)))))
    sNext)
noncomputable def f_is_text : List D → Sto → R XR := runF 2 2 b_is_text
/-! is_event: level 3 -/
abbrev s_is_event : Stmt := (top 31)
def N_is_event : List Str := ["many", "value"]
noncomputable def b_is_event : MS :=
    (sSeq (sIf (tOrM (tNotM (tTru (eCall f_is_tuple_up_to (aCons (eV 1) (aCons (eC (.int 1)) (aCons (eC (.int 2)) aNil)))))) (tNotM (tTru (eIsi "str" (eOp ixD (eV 1) (eC (.int 0))))))) (sSeq (sRet (eC (.bl false)))
    sNext) sNext)
    (sSeq (sIf (tVal (eOp eqD (eBi1 bLen (eV 1)) (eC (.int 1)))) (sSeq (sRet (eOp eqD (eV 1) (eC (.kt [.str "shut"]))))
    sNext) sNext)
    (sSeq (sIf (tVal (eOp eqD (eOp ixD (eV 1) (eC (.int 0))) (eC (.str "mark")))) (sSeq (sRet (eCall f_is_between (aCons (eOp ixD (eV 1) (eC (.int 1))) (aCons (eC (.int 0)) (aCons (eC (.int 5)) aNil)))))
    sNext) sNext)
    (sSeq (sIf (tVal (eOp eqD (eOp ixD (eV 1) (eC (.int 0))) (eC (.str "open")))) (sSeq (sRet (eCall f_is_between (aCons (eOp ixD (eV 1) (eC (.int 1))) (aCons (eC (.int 0)) (aCons (eC (.int 2)) aNil)))))
    sNext) sNext)
    (sSeq (sRet (eAndM (eOp eqD (eOp ixD (eV 1) (eC (.int 0))) (eC (.str "say"))) (eCall f_is_sign (aCons (eV 0) (aCons (eOp ixD (eV 1) (eC (.int 1))) aNil)))))
    sNext)))))
noncomputable def f_is_event : List D → Sto → R XR := runF 2 2 b_is_event
/-! is_entry: level 4 -/
abbrev s_is_entry : Stmt := (top 35)
def N_is_entry : List Str := ["many", "states", "value", "event"]
noncomputable def c_is_entry_0 : M := eComp (iAny (eOp ixD (eV 2) (eC (.int 1)))) (gNm 3) tYesM (eCall f_is_event (aCons (eV 0) (aCons (eV 3) aNil))) [3]
noncomputable def b_is_entry : MS :=
    (sSeq (sIf (tVal (eOp isD (eV 2) (eC .non))) (sSeq (sRet (eC (.bl true)))
    sNext) sNext)
    (sSeq (sIf (tOrM (tNotM (tTru (eCall f_is_tuple (aCons (eV 2) (aCons (eC (.int 2)) aNil))))) (tNotM (tTru (eCall f_is_between (aCons (eOp ixD (eV 2) (eC (.int 0))) (aCons (eC (.int 0)) (aCons (eOp subD (eV 1) (eC (.int 1))) aNil))))))) (sSeq (sRet (eC (.bl false)))
    sNext) sNext)
    (sSeq (sRet (eAndM (eCall f_is_tuple_up_to (aCons (eOp ixD (eV 2) (eC (.int 1))) (aCons (eC (.int 0)) (aCons (eC (.int 2)) aNil)))) (eBi1 bAll c_is_entry_0)))
    sNext)))
noncomputable def f_is_entry : List D → Sto → R XR := runF 3 4 b_is_entry
/-! are_rows: level 5 -/
abbrev s_are_rows : Stmt := (top 36)
def N_are_rows : List Str := ["many", "value", "row", "entry"]
noncomputable def c_are_rows_0 : M := eComp (iAny (eV 1)) (gNm 2) tYesM (eCall f_is_tuple (aCons (eV 2) (aCons (eV 0) aNil))) [2]
noncomputable def c_are_rows_1 : M := eComp (iAny (eV 2)) (gNm 3) tYesM (eCall f_is_entry (aCons (eV 0) (aCons (eBi1 bLen (eV 1)) (aCons (eV 3) aNil)))) [3]
noncomputable def c_are_rows_2 : M := eComp (iAny (eV 1)) (gNm 2) tYesM (eBi1 bAll c_are_rows_1) [2]
noncomputable def b_are_rows : MS :=
    (sSeq (sIf (tOrM (tNotM (tTru (eCall f_is_tuple_up_to (aCons (eV 1) (aCons (eC (.int 1)) (aCons (eC (.int 8)) aNil)))))) (tNotM (tTru (eBi1 bAll c_are_rows_0)))) (sSeq (sRet (eC (.bl false)))
    sNext) sNext)
    (sSeq (sRet (eBi1 bAll c_are_rows_2))
    sNext))
noncomputable def f_are_rows : List D → Sto → R XR := runF 2 4 b_are_rows
/-! states_in: level 1 -/
abbrev s_states_in : Stmt := (top 37)
def N_states_in : List Str := ["rows", "found", "at", "entry"]
noncomputable def b_states_in_l0 : MS :=
    (sSeq (sIf (tAndM (tVal (eOp isNotD (eV 3) (eC .non))) (tVal (eOp notInD (eOp ixD (eV 3) (eC (.int 0))) (eV 1)))) (sSeq (sExpr (eMeth mAppend (eV 1) (aCons (eOp ixD (eV 3) (eC (.int 0))) aNil)))
    sNext) sNext)
    sNext)
noncomputable def b_states_in_l1 : MS :=
    (sSeq (sFor (iAny (eOp ixD (eV 0) (eOp ixD (eV 1) (eV 2)))) (gNm 3) b_states_in_l0)
    (sSeq (sAug 2 ipAddD (eC (.int 1)))
    sNext))
noncomputable def b_states_in : MS :=
    (sSeq (sPar 1 2 (aCons (eLst (aCons (eC (.int 0)) aNil)) (aCons (eC (.int 0)) aNil)))
    (sSeq (sWhile (tVal (eOp ltD (eV 2) (eBi1 bLen (eV 1)))) b_states_in_l1)
    (sSeq (sRet (eV 1))
    sNext)))
noncomputable def f_states_in : List D → Sto → R XR := runF 1 4 b_states_in
/-! mode_behind: level 1 -/
abbrev s_mode_behind : Stmt := (top 38)
def N_mode_behind : List Str := ["mode", "events", "event"]
noncomputable def b_mode_behind_l0 : MS :=
    (sSeq (sIf (tOrM (tVal (eOp eqD (eOp ixD (eV 2) (eC (.int 0))) (eC (.str "mark")))) (tVal (eOp eqD (eOp ixD (eV 2) (eC (.int 0))) (eC (.str "open"))))) (sSeq (sIf (tVal (eOp isNotD (eV 0) (eC .non))) (sSeq (sRet (eTup aNil))
    sNext) sNext)
    (sSeq (sAsg (eIf (tVal (eOp eqD (eOp ixD (eV 2) (eC (.int 0))) (eC (.str "open")))) (eOp ixD (eV 2) (eC (.int 1))) (eC .non)) (gNm 0))
    sNext)) (sSeq (sIf (tVal (eOp isD (eV 0) (eC .non))) (sSeq (sRet (eTup aNil))
    sNext) (sSeq (sIf (tVal (eOp neD (eOp ixD (eV 2) (eC (.int 0))) (eC (.str "say")))) (sSeq (sAsg (eC .non) (gNm 0))
    sNext) sNext)
    sNext))
    sNext))
    sNext)
noncomputable def b_mode_behind : MS :=
    (sSeq (sFor (iAny (eV 1)) (gNm 2) b_mode_behind_l0)
    (sSeq (sRet (eTup (aCons (eV 0) aNil)))
    sNext))
noncomputable def f_mode_behind : List D → Sto → R XR := runF 2 3 b_mode_behind
/-! modes_in: level 2 -/
abbrev s_modes_in : Stmt := (top 39)
def N_modes_in : List Str := ["rows", "known", "state", "at", "entry", "behind"]
noncomputable def c_modes_in_0 : M := eComp (iRange1 (eBi1 bLen (eV 0))) (gNm 2) tYesM (eOp ixD (eV 1) (eV 2)) [2]
noncomputable def b_modes_in_l0 : MS :=
    (sSeq (sIf (tVal (eOp isD (eV 4) (eC .non))) (sSeq sCont
    sNext) sNext)
    (sSeq (sAsg (eCall f_mode_behind (aCons (eOp ixD (eV 1) (eV 2)) (aCons (eOp ixD (eV 4) (eC (.int 1))) aNil))) (gNm 5))
    (sSeq (sIf (tOrM (tVal (eOp eqD (eV 5) (eTup aNil))) (tVal (eOp neD (eSetd (eV 1) (eOp ixD (eV 4) (eC (.int 0))) (eOp ixD (eV 5) (eC (.int 0)))) (eOp ixD (eV 5) (eC (.int 0)))))) (sSeq sNever
    sNext) sNext)
    sNext)))
noncomputable def b_modes_in_l1 : MS :=
    (sSeq (sFor (iEnumM (eOp ixD (eV 0) (eV 2))) (gTp 2 (gsCons (gNm 3) (gsCons (gNm 4) gsNil))) b_modes_in_l0)
    sNext)
noncomputable def b_modes_in : MS :=
    (sSeq (sAsg (eDisp (pOf (((eC (.int 0)), (eC .non)) :: []))) (gNm 1))
    (sSeq (sFor (iAny (eCall f_states_in (aCons (eV 0) aNil))) (gNm 2) b_modes_in_l1)
    (sSeq (sRet (eBi1 bTuple c_modes_in_0))
    sNext)))
noncomputable def f_modes_in : List D → Sto → R XR := runF 1 6 b_modes_in
/-! are_ends: level 4 -/
abbrev s_are_ends : Stmt := (top 40)
def N_are_ends : List Str := ["known", "value", "state"]
noncomputable def c_are_ends_0 : M := eComp (iAny (eV 1)) (gNm 2) tYesM (eOp isD (eOp ixD (eV 0) (eV 2)) (eC .non)) [2]
noncomputable def b_are_ends : MS :=
    (sSeq (sRet (eAndM (eCall f_is_set (aCons (eV 1) (aCons (eBi1 bLen (eV 0)) aNil))) (eAndM (eOp neD (eV 1) (eTup aNil)) (eBi1 bAll c_are_ends_0))))
    sNext)
noncomputable def f_are_ends : List D → Sto → R XR := runF 2 3 b_are_ends
/-! Reader.__init__: level 6 -/
abbrev s_Reader___init__ : Stmt := (inClass (top 41) 0)
def N_Reader___init__ : List Str := ["self", "many", "rows", "ends", "come", "known"]
noncomputable def b_Reader___init__ : MS :=
    (sSeq (sIf (tNotM (tTru (eCall f_is_many (aCons (eV 1) aNil)))) (sSeq sNever
    sNext) sNext)
    (sSeq (sIf (tNotM (tTru (eCall f_are_rows (aCons (eV 1) (aCons (eV 2) aNil))))) (sSeq sNever
    sNext) sNext)
    (sSeq (sAsg (eCall f_states_in (aCons (eV 2) aNil)) (gNm 4))
    (sSeq (sIf (tVal (eOp ltD (eBi1 bLen (eV 4)) (eBi1 bLen (eV 2)))) (sSeq sNever
    sNext) sNext)
    (sSeq (sAsg (eCall f_modes_in (aCons (eV 2) aNil)) (gNm 5))
    (sSeq (sIf (tNotM (tTru (eCall f_are_ends (aCons (eV 5) (aCons (eV 3) aNil))))) (sSeq sNever
    sNext) sNext)
    (sSeq (sFldA "many" isCls (eV 0) (eV 1))
    (sSeq (sFldA "rows" isCls (eV 0) (eV 2))
    (sSeq (sFldA "ends" isCls (eV 0) (eV 3))
    (sSeq (sFldA "_modes" isCls (eV 0) (eV 5))
    sNext))))))))))
noncomputable def f_Reader___init__ : List D → Sto → R XR := runF 4 6 b_Reader___init__
/-! check_state: level 3 -/
abbrev s_check_state : Stmt := (top 42)
def N_check_state : List Str := ["reader", "state"]
noncomputable def b_check_state : MS :=
    (sSeq (sIf (tNotM (tTru (eCall f_is_between (aCons (eV 1) (aCons (eC (.int 0)) (aCons (eOp subD (eBi1 bLen (eUn (fldD "rows" isCls) (eV 0))) (eC (.int 1))) aNil)))))) (sSeq sNever
    sNext) sNext)
    sNext)
noncomputable def f_check_state : List D → Sto → R XR := runF 2 2 b_check_state
/-! check_text: level 3 -/
abbrev s_check_text : Stmt := (top 43)
def N_check_text : List Str := ["reader", "text"]
noncomputable def b_check_text : MS :=
    (sSeq (sIf (tNotM (tTru (eCall f_is_text (aCons (eUn (fldD "many" isCls) (eV 0)) (aCons (eV 1) aNil))))) (sSeq sNever
    sNext) sNext)
    sNext)
noncomputable def f_check_text : List D → Sto → R XR := runF 2 2 b_check_text
/-! modes: level 1 -/
abbrev s_modes : Stmt := (top 44)
def N_modes : List Str := ["reader"]
noncomputable def b_modes : MS :=
    (sSeq (sRet (eUn (fldD "_modes" isCls) (eV 0)))
    sNext)
noncomputable def f_modes : List D → Sto → R XR := runF 1 1 b_modes
/-! entry_for: level 1 -/
abbrev s_entry_for : Stmt := (top 45)
def N_entry_for : List Str := ["reader", "state", "sign"]
noncomputable def b_entry_for : MS :=
    (sSeq (sRet (eOp ixD (eOp ixD (eUn (fldD "rows" isCls) (eV 0)) (eV 1)) (eMeth mIndex (eC (.str "abcdef")) (aCons (eV 2) aNil))))
    sNext)
noncomputable def f_entry_for : List D → Sto → R XR := runF 3 3 b_entry_for
/-! read_on: level 2 -/
abbrev s_read_on : Stmt := (top 46)
def N_read_on : List Str := ["reader", "state", "text", "events", "sign", "entry"]
noncomputable def b_read_on_l0 : MS :=
    (sSeq (sAsg (eCall f_entry_for (aCons (eV 0) (aCons (eV 1) (aCons (eV 4) aNil)))) (gNm 5))
    (sSeq (sIf (tVal (eOp isD (eV 5) (eC .non))) (sSeq (sRet (eC .non))
    sNext) sNext)
    (sSeq (sAsg (eOp ixD (eV 5) (eC (.int 0))) (gNm 1))
    (sSeq (sExpr (eMeth mExtend (eV 3) (aCons (eOp ixD (eV 5) (eC (.int 1))) aNil)))
    sNext))))
noncomputable def b_read_on : MS :=
    (sSeq (sAsg (eLst aNil) (gNm 3))
    (sSeq (sFor (iAny (eV 2)) (gNm 4) b_read_on_l0)
    (sSeq (sRet (eTup (aCons (eV 1) (aCons (eBi1 bTuple (eV 3)) aNil))))
    sNext)))
noncomputable def f_read_on : List D → Sto → R XR := runF 3 6 b_read_on
/-! read_from: level 4 -/
abbrev s_read_from : Stmt := (top 47)
def N_read_from : List Str := ["reader", "state", "text"]
noncomputable def b_read_from : MS :=
    (sSeq (sExpr (eCall f_check_state (aCons (eV 0) (aCons (eV 1) aNil))))
    (sSeq (sExpr (eCall f_check_text (aCons (eV 0) (aCons (eV 2) aNil))))
    (sSeq (sRet (eCall f_read_on (aCons (eV 0) (aCons (eV 1) (aCons (eV 2) aNil)))))
    sNext)))
noncomputable def f_read_from : List D → Sto → R XR := runF 3 3 b_read_from
/-! reading_of: level 3 -/
abbrev s_reading_of : Stmt := (top 48)
def N_reading_of : List Str := ["reader", "text", "found"]
noncomputable def b_reading_of : MS :=
    (sSeq (sAsg (eCall f_read_on (aCons (eV 0) (aCons (eC (.int 0)) (aCons (eV 1) aNil)))) (gNm 2))
    (sSeq (sRet (eIf (tAndM (tVal (eOp isNotD (eV 2) (eC .non))) (tVal (eOp inD (eOp ixD (eV 2) (eC (.int 0))) (eUn (fldD "ends" isCls) (eV 0))))) (eOp ixD (eV 2) (eC (.int 1))) (eC .non)))
    sNext))
noncomputable def f_reading_of : List D → Sto → R XR := runF 2 3 b_reading_of
/-! reads: level 4 -/
abbrev s_reads : Stmt := (top 49)
def N_reads : List Str := ["reader", "text"]
noncomputable def b_reads : MS :=
    (sSeq (sExpr (eCall f_check_text (aCons (eV 0) (aCons (eV 1) aNil))))
    (sSeq (sRet (eCall f_reading_of (aCons (eV 0) (aCons (eV 1) aNil))))
    sNext))
noncomputable def f_reads : List D → Sto → R XR := runF 2 2 b_reads
/-! items_in: level 1 -/
abbrev s_items_in : Stmt := (top 50)
def N_items_in : List Str := ["events", "found", "kind", "said", "event"]
noncomputable def b_items_in_l0 : MS :=
    (sSeq (sIf (tVal (eOp eqD (eOp ixD (eV 4) (eC (.int 0))) (eC (.str "mark")))) (sSeq (sExpr (eMeth mAppend (eV 1) (aCons (eV 4) aNil)))
    sNext) (sSeq (sIf (tVal (eOp eqD (eOp ixD (eV 4) (eC (.int 0))) (eC (.str "open")))) (sSeq (sPar 2 3 (aCons (eOp ixD (eV 4) (eC (.int 1))) (aCons (eC (.str "")) aNil)))
    sNext) (sSeq (sIf (tVal (eOp eqD (eOp ixD (eV 4) (eC (.int 0))) (eC (.str "say")))) (sSeq (sAsg (eOp addD (eV 3) (eOp ixD (eV 4) (eC (.int 1)))) (gNm 3))
    sNext) (sSeq (sExpr (eMeth mAppend (eV 1) (aCons (eTup (aCons (eC (.str "field")) (aCons (eV 2) (aCons (eV 3) aNil)))) aNil)))
    sNext))
    sNext))
    sNext))
    sNext)
noncomputable def b_items_in : MS :=
    (sSeq (sPar3 1 2 3 (aCons (eLst aNil) (aCons (eC .non) (aCons (eC (.str "")) aNil))))
    (sSeq (sFor (iAny (eV 0)) (gNm 4) b_items_in_l0)
    (sSeq (sRet (eBi1 bTuple (eV 1)))
    sNext)))
noncomputable def f_items_in : List D → Sto → R XR := runF 1 5 b_items_in
/-! items: level 4 -/
abbrev s_items : Stmt := (top 51)
def N_items : List Str := ["reader", "text", "events"]
noncomputable def b_items : MS :=
    (sSeq (sExpr (eCall f_check_text (aCons (eV 0) (aCons (eV 1) aNil))))
    (sSeq (sAsg (eCall f_reading_of (aCons (eV 0) (aCons (eV 1) aNil))) (gNm 2))
    (sSeq (sRet (eIf (tVal (eOp isD (eV 2) (eC .non))) (eC .non) (eCall f_items_in (aCons (eV 2) aNil))))
    sNext)))
noncomputable def f_items : List D → Sto → R XR := runF 2 3 b_items
/-! stuck_at: level 4 -/
abbrev s_stuck_at : Stmt := (top 52)
def N_stuck_at : List Str := ["reader", "text", "state", "at", "sign", "entry"]
noncomputable def b_stuck_at_l0 : MS :=
    (sSeq (sAsg (eCall f_entry_for (aCons (eV 0) (aCons (eV 2) (aCons (eV 4) aNil)))) (gNm 5))
    (sSeq (sIf (tVal (eOp isD (eV 5) (eC .non))) (sSeq (sRet (eV 3))
    sNext) sNext)
    (sSeq (sAsg (eOp ixD (eV 5) (eC (.int 0))) (gNm 2))
    sNext)))
noncomputable def b_stuck_at : MS :=
    (sSeq (sExpr (eCall f_check_text (aCons (eV 0) (aCons (eV 1) aNil))))
    (sSeq (sAsg (eC (.int 0)) (gNm 2))
    (sSeq (sFor (iEnumM (eV 1)) (gTp 2 (gsCons (gNm 3) (gsCons (gNm 4) gsNil))) b_stuck_at_l0)
    (sSeq (sRet (eIf (tVal (eOp inD (eV 2) (eUn (fldD "ends" isCls) (eV 0)))) (eC .non) (eBi1 bLen (eV 1))))
    sNext))))
noncomputable def f_stuck_at : List D → Sto → R XR := runF 2 6 b_stuck_at
/-! _law_cell: level 1 -/
abbrev s__law_cell : Stmt := (top 54)
def N__law_cell : List Str := ["script", "k"]
noncomputable def b__law_cell : MS :=
    (sSeq (sRet (eIf (tVal (eOp ltD (eV 1) (eBi1 bLen (eV 0)))) (eOp ixD (eV 0) (eV 1)) (eOp addD (eOp mulD (eC (.int 7057)) (eV 1)) (eOp modD (eBi1 bInt (eBi1 bSum (eSl (eV 0) none (some (eC (.int 1)))))) (eC (.int 1000151))))))
    sNext)
noncomputable def f__law_cell : List D → Sto → R XR := runF 2 2 b__law_cell
/-! _law_box: level 1 -/
abbrev s__law_box : Stmt := (top 55)
def N__law_box : List Str := ["great"]
noncomputable def b__law_box : MS :=
    (sSeq (sRet (eLst (aCons (eBi1 bAbs (eV 0)) (aCons (eOp geD (eBi1 bAbs (eV 0)) (eOp powD (eC (.int 10)) (eC (.int 18)))) (aCons (eOp modD (eBi1 bInt (eBi1 bAbs (eV 0))) (eC (.int 2147483629))) (aCons (eC (.int 0)) aNil))))))
    sNext)
noncomputable def f__law_box : List D → Sto → R XR := runF 1 1 b__law_box
/-! _law_take: level 1 -/
abbrev s__law_take : Stmt := (top 56)
def N__law_take : List Str := ["box", "many", "digit", "mixed"]
noncomputable def b__law_take : MS :=
    (sSeq (sIf (tAndM (tTru (eOp ixD (eV 0) (eC (.int 1)))) (tVal (eOp gtD (eOp ixD (eV 0) (eC (.int 0))) (eC (.int 0))))) (sSeq (sAsg (eOp modD (eBi1 bInt (eOp ixD (eV 0) (eC (.int 0)))) (eV 1)) (gNm 2))
    (sSeq (sAsg (eOp fdivD (eOp ixD (eV 0) (eC (.int 0))) (eV 1)) (gSb (eV 0) (eC (.int 0))))
    (sSeq (sRet (eV 2))
    sNext))) sNext)
    (sSeq (sAsg (eOp addD (eOp ixD (eV 0) (eC (.int 3))) (eC (.int 1))) (gSb (eV 0) (eC (.int 3))))
    (sSeq (sAsg (eOp modD (eBi1 bInt (eOp powD (eOp addD (eOp addD (eOp ixD (eV 0) (eC (.int 2))) (eOp mulD (eC (.int 15486011)) (eOp ixD (eV 0) (eC (.int 3))))) (eC (.int 179425031))) (eC (.int 5)))) (eC (.int 2147483647))) (gNm 3))
    (sSeq (sRet (eOp modD (eBi1 bInt (eOp fdivD (eOp modD (eBi1 bInt (eOp powD (eOp addD (eOp mulD (eV 3) (eC (.int 48271))) (eOp mulD (eC (.int 104759)) (eOp ixD (eV 0) (eC (.int 3))))) (eC (.int 3)))) (eC (.int 2147483587))) (eC (.int 64)))) (eV 1)))
    sNext))))
noncomputable def f__law_take : List D → Sto → R XR := runF 2 4 b__law_take
/-! _law_pick: level 2 -/
abbrev s__law_pick : Stmt := (top 57)
def N__law_pick : List Str := ["box", "menu"]
noncomputable def b__law_pick : MS :=
    (sSeq (sRet (eOp ixD (eV 1) (eCall f__law_take (aCons (eV 0) (aCons (eBi1 bLen (eV 1)) aNil)))))
    sNext)
noncomputable def f__law_pick : List D → Sto → R XR := runF 2 2 b__law_pick
/-! _law_same: level 12 -/
abbrev s__law_same : Stmt := (top 58)
def N__law_same : List Str := ["told", "due", "k"]
noncomputable def c__law_same_0 (r : List D → Sto → R XR) : M := eComp (iRange1 (eBi1 bLen (eV 1))) (gNm 2) (tVal (eOp neD (eSl (eV 0) (some (eV 2)) (some (eOp addD (eV 2) (eC (.int 1))))) (eOp ixD (eV 1) (eV 2)))) (eV 2) [2]
noncomputable def c__law_same_1 (r : List D → Sto → R XR) : M := eComp (iRange1 (eBi1 bLen (eV 1))) (gNm 2) (tNotM (tTru (eCall r (aCons (eOp ixD (eV 0) (eV 2)) (aCons (eOp ixD (eV 1) (eV 2)) aNil))))) (eV 2) [2]
noncomputable def b__law_same (r : List D → Sto → R XR) : MS :=
    (sSeq (sIf (tOrM (tVal (eOp isD (eV 1) (eC .non))) (tTru (eIsi "bool" (eV 1)))) (sSeq (sRet (eIf (tVal (eOp isD (eV 1) (eC .non))) (eOp isD (eV 0) (eC .non)) (eAndM (eIsi "bool" (eV 0)) (eOp eqD (eOp isD (eV 0) (eC (.bl true))) (eOp isD (eV 1) (eC (.bl true)))))))
    sNext) sNext)
    (sSeq (sIf (tTru (eIsi "int" (eV 1))) (sSeq (sRet (eAndM (eIsi "int" (eV 0)) (eAndM (eNotM (eIsi "bool" (eV 0))) (eOp eqD (eOp subD (eBi1 bInt (eV 0)) (eV 1)) (eC (.int 0))))))
    sNext) sNext)
    (sSeq (sIf (tTru (eIsi "str" (eV 1))) (sSeq (sRet (eAndM (eIsi "str" (eV 0)) (eAndM (eOp eqD (eBi1 bLen (eV 0)) (eBi1 bLen (eV 1))) (eOp eqD (c__law_same_0 r) (eLst aNil)))))
    sNext) sNext)
    (sSeq (sIf (tOrM (tNotM (tTru (eIsiT ["list", "tuple"] (eV 1)))) (tOrM (tVal (eOp neD (eIsi "list" (eV 0)) (eIsi "list" (eV 1)))) (tVal (eOp neD (eIsi "tuple" (eV 0)) (eIsi "tuple" (eV 1)))))) (sSeq (sRet (eC (.bl false)))
    sNext) sNext)
    (sSeq (sRet (eAndM (eOp eqD (eBi1 bLen (eV 0)) (eBi1 bLen (eV 1))) (eOp eqD (c__law_same_1 r) (eLst aNil))))
    sNext)))))
noncomputable def f__law_same : Nat → List D → Sto → R XR
  | 0 => fun _ _ => .no
  | n + 1 => runF 2 3 (b__law_same (f__law_same n))
theorem len__law_same : ∀ (n : Nat) (ds : List D) (S : Sto), ds.length ≠ 2 → f__law_same n ds S = .no
  | 0, _, _, _ => rfl
  | n + 1, ds, S, h => runF_len ds S h
/-! _law_events: level 3 -/
abbrev s__law_events : Stmt := (top 59)
def N__law_events : List Str := ["box", "many", "one", "other", "say", "again", "mark", "more"]
noncomputable def b__law_events : MS :=
    (sSeq (sPar 4 5 (aCons (eTup (aCons (eC (.str "say")) (aCons (eOp ixD (eC (.str "abcdef")) (eCall f__law_take (aCons (eV 0) (aCons (eV 1) aNil)))) aNil))) (aCons (eTup (aCons (eC (.str "say")) (aCons (eOp ixD (eC (.str "abcdef")) (eCall f__law_take (aCons (eV 0) (aCons (eV 1) aNil)))) aNil))) aNil)))
    (sSeq (sPar 6 7 (aCons (eTup (aCons (eC (.str "mark")) (aCons (eCall f__law_take (aCons (eV 0) (aCons (eC (.int 6)) aNil))) aNil))) (aCons (eTup (aCons (eC (.str "mark")) (aCons (eCall f__law_take (aCons (eV 0) (aCons (eC (.int 6)) aNil))) aNil))) aNil)))
    (sSeq (sIf (tAndM (tVal (eOp isD (eV 2) (eC .non))) (tVal (eOp isD (eV 3) (eC .non)))) (sSeq (sRet (eCall f__law_pick (aCons (eV 0) (aCons (eLst (aCons (eTup aNil) (aCons (eTup (aCons (eV 6) aNil)) (aCons (eTup (aCons (eV 6) (aCons (eV 7) aNil))) (aCons (eTup (aCons (eV 6) (aCons (eV 6) aNil))) (aCons (eTup (aCons (eTup (aCons (eC (.str "open")) (aCons (eCall f__law_take (aCons (eV 0) (aCons (eC (.int 3)) aNil))) aNil))) (aCons (eTup (aCons (eC (.str "shut")) aNil)) aNil))) aNil)))))) aNil))))
    sNext) sNext)
    (sSeq (sIf (tVal (eOp isD (eV 2) (eC .non))) (sSeq (sRet (eCall f__law_pick (aCons (eV 0) (aCons (eLst (aCons (eTup (aCons (eTup (aCons (eC (.str "open")) (aCons (eV 3) aNil))) aNil)) (aCons (eTup (aCons (eV 6) (aCons (eTup (aCons (eC (.str "open")) (aCons (eV 3) aNil))) aNil))) (aCons (eTup (aCons (eTup (aCons (eC (.str "open")) (aCons (eV 3) aNil))) (aCons (eV 4) aNil))) aNil)))) aNil))))
    sNext) sNext)
    (sSeq (sIf (tVal (eOp isD (eV 3) (eC .non))) (sSeq (sRet (eCall f__law_pick (aCons (eV 0) (aCons (eLst (aCons (eTup (aCons (eTup (aCons (eC (.str "shut")) aNil)) aNil)) (aCons (eTup (aCons (eV 4) (aCons (eTup (aCons (eC (.str "shut")) aNil)) aNil))) (aCons (eTup (aCons (eTup (aCons (eC (.str "shut")) aNil)) (aCons (eV 6) aNil))) aNil)))) aNil))))
    sNext) sNext)
    (sSeq (sIf (tVal (eOp neD (eV 2) (eV 3))) (sSeq (sRet (eTup (aCons (eTup (aCons (eC (.str "shut")) aNil)) (aCons (eTup (aCons (eC (.str "open")) (aCons (eV 3) aNil))) aNil))))
    sNext) sNext)
    (sSeq (sRet (eCall f__law_pick (aCons (eV 0) (aCons (eLst (aCons (eTup aNil) (aCons (eTup (aCons (eV 4) aNil)) (aCons (eTup (aCons (eV 4) (aCons (eV 5) aNil))) (aCons (eTup (aCons (eV 4) (aCons (eV 4) aNil))) (aCons (eTup (aCons (eTup (aCons (eC (.str "shut")) aNil)) (aCons (eTup (aCons (eC (.str "open")) (aCons (eV 3) aNil))) aNil))) aNil)))))) aNil))))
    sNext)))))))
noncomputable def f__law_events : List D → Sto → R XR := runF 4 8 b__law_events
/-! _law_planned: level 4 -/
abbrev s__law_planned : Stmt := (top 60)
def N__law_planned : List Str := ["box", "many", "count", "known", "edges", "homes", "k", "free", "node", "s", "rest", "back", "t"]
noncomputable def c__law_planned_0 : M := eComp (iRange1 (eV 1)) (gNm 12) (tVal (eOp inD (eTup (aCons (eV 8) (aCons (eV 12) aNil))) (eV 4))) (eV 12) [12]
noncomputable def c__law_planned_1 : M := eComp (iRange1 (eV 1)) (gNm 9) (tAndM (tVal (eOp notInD (eTup (aCons (eV 8) (aCons (eV 9) aNil))) (eV 4))) (tVal (eOp ltD (eBi1 bLen c__law_planned_0) (eOp subD (eV 1) (eC (.int 1)))))) (eTup (aCons (eV 8) (aCons (eV 9) aNil))) [9]
noncomputable def c__law_planned_2 : M := eComp (iRange1 (eV 1)) (gNm 9) (tVal (eOp notInD (eTup (aCons (eV 8) (aCons (eV 9) aNil))) (eV 4))) (eV 9) [9]
noncomputable def c__law_planned_3 : M := eComp (iAny (eV 10)) (gNm 9) (tVal (eOp ltD (eCall f__law_take (aCons (eV 0) (aCons (eC (.int 5)) aNil))) (eC (.int 3)))) (eV 9) [9]
noncomputable def b__law_planned_l0 : MS :=
    (sSeq (sExpr (eMeth mExtend (eV 7) (aCons c__law_planned_1 aNil)))
    sNext)
noncomputable def b__law_planned_l1 : MS :=
    (sSeq (sAsg (eLst aNil) (gNm 7))
    (sSeq (sFor (iRange1 (eV 6)) (gNm 8) b__law_planned_l0)
    (sSeq (sAsg (eOp ixD (eV 7) (eOp subD (eUn negD (eC (.int 1))) (eCall f__law_take (aCons (eV 0) (aCons (eOp bMin2 (eBi1 bLen (eV 7)) (eOp mulD (eC (.int 2)) (eV 1))) aNil))))) (gTp 2 (gsCons (gNm 8) (gsCons (gNm 9) gsNil))))
    (sSeq (sExpr (eMeth mAppend (eV 3) (aCons (eIf (tAndM (tVal (eOp ltD (eV 6) (eC (.int 4)))) (tVal (eOp gtD (eCall f__law_take (aCons (eV 0) (aCons (eC (.int 4)) aNil))) (eC (.int 0))))) (eOp ixD (eLst (aCons (eC (.int 0)) (aCons (eC (.int 1)) (aCons (eC (.int 2)) aNil)))) (eOp modD (eBi1 bInt (eOp subD (eV 6) (eC (.int 1)))) (eC (.int 3)))) (eCall f__law_pick (aCons (eV 0) (aCons (eLst (aCons (eC .non) (aCons (eC (.int 0)) (aCons (eC (.int 1)) (aCons (eC (.int 2)) aNil))))) aNil)))) aNil)))
    (sSeq (sAsg (eTup (aCons (eV 6) (aCons (eCall f__law_events (aCons (eV 0) (aCons (eV 1) (aCons (eOp ixD (eV 3) (eV 8)) (aCons (eOp ixD (eV 3) (eV 6)) aNil))))) aNil))) (gSb (eV 4) (eTup (aCons (eV 8) (aCons (eV 9) aNil)))))
    (sSeq (sExpr (eMeth mAppend (eV 5) (aCons (eOp addD (eOp ixD (eV 5) (eV 8)) (eOp ixD (eC (.str "abcdef")) (eV 9))) aNil)))
    sNext))))))
noncomputable def b__law_planned_l2 : MS :=
    (sSeq (sAsg (eTup (aCons (eC (.int 0)) (aCons (eCall f__law_events (aCons (eV 0) (aCons (eV 1) (aCons (eOp ixD (eV 3) (eV 8)) (aCons (eC .non) aNil))))) aNil))) (gSb (eV 4) (eTup (aCons (eV 8) (aCons (eV 9) aNil)))))
    sNext)
noncomputable def b__law_planned_l3 : MS :=
    (sSeq (sAsg c__law_planned_2 (gNm 10))
    (sSeq (sAsg c__law_planned_3 (gNm 11))
    (sSeq (sFor (iAny (eIf (tVal (eOp neD (eV 11) (eLst aNil))) (eV 11) (eSl (eV 10) none (some (eC (.int 1)))))) (gNm 9) b__law_planned_l2)
    sNext)))
noncomputable def b__law_planned : MS :=
    (sSeq (sAsg (eTup (aCons (eLst (aCons (eC .non) aNil)) (aCons eDctNew (aCons (eLst (aCons (eC (.str "")) aNil)) aNil)))) (gTp 3 (gsCons (gNm 3) (gsCons (gNm 4) (gsCons (gNm 5) gsNil)))))
    (sSeq (sFor (iRange2 (eC (.int 1)) (eV 2)) (gNm 6) b__law_planned_l1)
    (sSeq (sFor (iRange1 (eV 2)) (gNm 8) b__law_planned_l3)
    (sSeq (sRet (eLst (aCons (eV 1) (aCons (eV 4) (aCons (eV 3) (aCons (eV 5) aNil))))))
    sNext))))
noncomputable def f__law_planned : List D → Sto → R XR := runF 3 13 b__law_planned
/-! _law_words: level 1 -/
abbrev s__law_words : Stmt := (top 61)
def N__law_words : List Str := ["plan", "many", "edges", "known", "homes", "found", "node", "s", "text", "events", "here", "sign", "many_signs"]
noncomputable def c__law_words_0 : M := eComp (iAny (eBi1 bSortX (eV 5))) (gTp 3 (gsCons (gNm 12) (gsCons (gNm 8) (gsCons (gNm 9) gsNil)))) tYesM (eTup (aCons (eV 8) (aCons (eV 9) aNil))) [12, 8, 9]
noncomputable def b__law_words_l0 : MS :=
    (sSeq (sAsg (eOp addD (eV 9) (eOp ixD (eOp ixD (eV 2) (eTup (aCons (eV 10) (aCons (eMeth mIndex (eC (.str "abcdef")) (aCons (eV 11) aNil)) aNil)))) (eC (.int 1)))) (gNm 9))
    (sSeq (sAsg (eOp ixD (eOp ixD (eV 2) (eTup (aCons (eV 10) (aCons (eMeth mIndex (eC (.str "abcdef")) (aCons (eV 11) aNil)) aNil)))) (eC (.int 0))) (gNm 10))
    sNext))
noncomputable def b__law_words_l1 : MS :=
    (sSeq (sIf (tVal (eOp eqD (eOp ixD (eOp ixD (eV 2) (eTup (aCons (eV 6) (aCons (eV 7) aNil)))) (eC (.int 0))) (eC (.int 0)))) (sSeq (sPar3 8 9 10 (aCons (eOp addD (eOp ixD (eV 4) (eV 6)) (eOp ixD (eC (.str "abcdef")) (eV 7))) (aCons (eTup aNil) (aCons (eC (.int 0)) aNil))))
    (sSeq (sFor (iAny (eV 8)) (gNm 11) b__law_words_l0)
    (sSeq (sExpr (eMeth mAppend (eV 5) (aCons (eTup (aCons (eBi1 bLen (eV 8)) (aCons (eV 8) (aCons (eV 9) aNil)))) aNil)))
    sNext))) sNext)
    sNext)
noncomputable def b__law_words : MS :=
    (sSeq (sAsg (eV 0) (gTp 4 (gsCons (gNm 1) (gsCons (gNm 2) (gsCons (gNm 3) (gsCons (gNm 4) gsNil))))))
    (sSeq (sAsg (eLst aNil) (gNm 5))
    (sSeq (sLock (eV 2) (sFor (iKeysM (eV 2)) (gTp 2 (gsCons (gNm 6) (gsCons (gNm 7) gsNil))) b__law_words_l1))
    (sSeq (sRet c__law_words_0)
    sNext))))
noncomputable def f__law_words : List D → Sto → R XR := runF 1 13 b__law_words
/-! _law_rows: level 1 -/
abbrev s__law_rows : Stmt := (top 62)
def N__law_rows : List Str := ["plan", "order", "many", "edges", "known", "homes", "rows", "node", "row", "s", "edge"]
noncomputable def b__law_rows_l0 : MS :=
    (sSeq (sAsg (eMeth mGet (eV 3) (aCons (eTup (aCons (eV 7) (aCons (eV 9) aNil))) aNil)) (gNm 10))
    (sSeq (sExpr (eMeth mAppend (eV 8) (aCons (eIf (tVal (eOp isD (eV 10) (eC .non))) (eC .non) (eTup (aCons (eOp ixD (eV 1) (eOp ixD (eV 10) (eC (.int 0)))) (aCons (eOp ixD (eV 10) (eC (.int 1))) aNil)))) aNil)))
    sNext))
noncomputable def b__law_rows_l1 : MS :=
    (sSeq (sAsg (eLst aNil) (gNm 8))
    (sSeq (sFor (iRange1 (eV 2)) (gNm 9) b__law_rows_l0)
    (sSeq (sAsg (eBi1 bTuple (eV 8)) (gSb (eV 6) (eOp ixD (eV 1) (eV 7))))
    sNext)))
noncomputable def b__law_rows : MS :=
    (sSeq (sAsg (eV 0) (gTp 4 (gsCons (gNm 2) (gsCons (gNm 3) (gsCons (gNm 4) (gsCons (gNm 5) gsNil))))))
    (sSeq (sAsg (eOp mulD (eLst (aCons (eC .non) aNil)) (eBi1 bLen (eV 4))) (gNm 6))
    (sSeq (sFor (iRange1 (eBi1 bLen (eV 4))) (gNm 7) b__law_rows_l1)
    (sSeq (sRet (eBi1 bTuple (eV 6)))
    sNext))))
noncomputable def f__law_rows : List D → Sto → R XR := runF 2 11 b__law_rows
/-! _law_order: level 2 -/
abbrev s__law_order : Stmt := (top 63)
def N__law_order : List Str := ["box", "count", "rest", "found", "k"]
noncomputable def b__law_order_l0 : MS :=
    (sSeq (sExpr (eMeth mAppend (eV 3) (aCons (eMeth mPop (eV 2) (aCons (eCall f__law_take (aCons (eV 0) (aCons (eBi1 bLen (eV 2)) aNil))) aNil)) aNil)))
    sNext)
noncomputable def b__law_order : MS :=
    (sSeq (sPar 2 3 (aCons (eLstRg (iRange2 (eC (.int 1)) (eV 1))) (aCons (eLst (aCons (eC (.int 0)) aNil)) aNil)))
    (sSeq (sFor (iRange2 (eC (.int 1)) (eV 1)) (gNm 4) b__law_order_l0)
    (sSeq (sRet (eV 3))
    sNext)))
noncomputable def f__law_order : List D → Sto → R XR := runF 2 5 b__law_order
/-! _law_items: level 1 -/
abbrev s__law_items : Stmt := (top 64)
def N__law_items : List Str := ["events", "found", "field", "event"]
noncomputable def b__law_items_l0 : MS :=
    (sSeq (sIf (tVal (eOp eqD (eOp ixD (eV 3) (eC (.int 0))) (eC (.str "mark")))) (sSeq (sExpr (eMeth mAppend (eV 1) (aCons (eV 3) aNil)))
    sNext) (sSeq (sIf (tVal (eOp eqD (eOp ixD (eV 3) (eC (.int 0))) (eC (.str "open")))) (sSeq (sAsg (eLst (aCons (eOp ixD (eV 3) (eC (.int 1))) (aCons (eC (.str "")) aNil))) (gNm 2))
    sNext) (sSeq (sIf (tVal (eOp eqD (eOp ixD (eV 3) (eC (.int 0))) (eC (.str "say")))) (sSeq (sAsg (eLst (aCons (eOp ixD (eV 2) (eC (.int 0))) (aCons (eOp addD (eOp ixD (eV 2) (eC (.int 1))) (eOp ixD (eV 3) (eC (.int 1)))) aNil))) (gNm 2))
    sNext) (sSeq (sExpr (eMeth mAppend (eV 1) (aCons (eTup (aCons (eC (.str "field")) (aCons (eOp ixD (eV 2) (eC (.int 0))) (aCons (eOp ixD (eV 2) (eC (.int 1))) aNil)))) aNil)))
    sNext))
    sNext))
    sNext))
    sNext)
noncomputable def b__law_items : MS :=
    (sSeq (sPar 1 2 (aCons (eLst aNil) (aCons (eLst (aCons (eC (.int 0)) (aCons (eC (.str "")) aNil))) aNil)))
    (sSeq (sFor (iAny (eV 0)) (gNm 3) b__law_items_l0)
    (sSeq (sRet (eBi1 bTuple (eV 1)))
    sNext)))
noncomputable def f__law_items : List D → Sto → R XR := runF 1 4 b__law_items
/-! _law_behind: level 1 -/
abbrev s__law_behind : Stmt := (top 65)
def N__law_behind : List Str := ["plan", "text", "here", "events", "k", "edge"]
noncomputable def b__law_behind_l0 : MS :=
    (sSeq (sAsg (eMeth mGet (eOp ixD (eV 0) (eC (.int 1))) (aCons (eTup (aCons (eV 2) (aCons (eMeth mIndex (eC (.str "abcdef")) (aCons (eOp ixD (eV 1) (eV 4)) aNil)) aNil))) aNil)) (gNm 5))
    (sSeq (sIf (tVal (eOp isD (eV 5) (eC .non))) (sSeq (sRet (eV 4))
    sNext) sNext)
    (sSeq (sPar 2 3 (aCons (eOp ixD (eV 5) (eC (.int 0))) (aCons (eOp addD (eV 3) (eOp ixD (eV 5) (eC (.int 1)))) aNil)))
    sNext)))
noncomputable def b__law_behind : MS :=
    (sSeq (sAsg (eTup (aCons (eC (.int 0)) (aCons (eTup aNil) aNil))) (gTp 2 (gsCons (gNm 2) (gsCons (gNm 3) gsNil))))
    (sSeq (sFor (iRange1 (eBi1 bLen (eV 1))) (gNm 4) b__law_behind_l0)
    (sSeq (sRet (eTup (aCons (eV 2) (aCons (eV 3) aNil))))
    sNext)))
noncomputable def f__law_behind : List D → Sto → R XR := runF 2 6 b__law_behind
/-! _law_flat: level 1 -/
abbrev s__law_flat : Stmt := (top 66)
def N__law_flat : List Str := ["told", "found", "item", "sign"]
noncomputable def c__law_flat_0 : M := eComp (iAny (eOp ixD (eV 2) (eC (.int 2)))) (gNm 3) tYesM (eTup (aCons (eC (.str "say")) (aCons (eV 3) aNil))) [3]
noncomputable def b__law_flat_l0 : MS :=
    (sSeq (sExpr (eMeth mAppend (eV 1) (aCons (eIf (tVal (eOp eqD (eOp ixD (eV 2) (eC (.int 0))) (eC (.str "field")))) (eTup (aCons (eC (.str "open")) (aCons (eOp ixD (eV 2) (eC (.int 1))) aNil))) (eV 2)) aNil)))
    (sSeq (sIf (tVal (eOp eqD (eOp ixD (eV 2) (eC (.int 0))) (eC (.str "field")))) (sSeq (sExpr (eMeth mExtend (eV 1) (aCons (eOp addD c__law_flat_0 (eLst (aCons (eTup (aCons (eC (.str "shut")) aNil)) aNil))) aNil)))
    sNext) sNext)
    sNext))
noncomputable def b__law_flat : MS :=
    (sSeq (sAsg (eLst aNil) (gNm 1))
    (sSeq (sFor (iAny (eV 0)) (gNm 2) b__law_flat_l0)
    (sSeq (sRet (eBi1 bTuple (eV 1)))
    sNext)))
noncomputable def f__law_flat : List D → Sto → R XR := runF 1 4 b__law_flat
/-! _law_told: level 5 -/
abbrev s__law_told : Stmt := (top 67)
def N__law_told : List Str := ["reader", "text", "named"]
noncomputable def b__law_told : MS :=
    (sSeq (sIf (tTru (eV 2)) (sSeq (sRet (eLst (aCons (eCallK 2 [1, 0] f_reads (aCons (eV 1) (aCons (eV 0) aNil))) (aCons (eCallK 2 [1, 0] f_items (aCons (eV 1) (aCons (eV 0) aNil))) (aCons (eCallK 2 [1, 0] f_stuck_at (aCons (eV 1) (aCons (eV 0) aNil))) (aCons (eCallK 3 [2, 1, 0] f_read_from (aCons (eV 1) (aCons (eC (.int 0)) (aCons (eV 0) aNil)))) aNil))))))
    sNext) sNext)
    (sSeq (sRet (eLst (aCons (eCall f_reads (aCons (eV 0) (aCons (eV 1) aNil))) (aCons (eCall f_items (aCons (eV 0) (aCons (eV 1) aNil))) (aCons (eCall f_stuck_at (aCons (eV 0) (aCons (eV 1) aNil))) (aCons (eCall f_read_from (aCons (eV 0) (aCons (eC (.int 0)) (aCons (eV 1) aNil)))) aNil))))))
    sNext))
noncomputable def f__law_told : List D → Sto → R XR := runF 3 3 b__law_told
/-! _law_text_right: level 13 -/
abbrev s__law_text_right : Stmt := (top 68)
def N__law_text_right : List Str := ["reader", "words", "rest", "order", "named", "word", "text", "events", "found", "more", "tail"]
noncomputable def c__law_text_right_0 : M := eComp (iAny (eV 1)) (gNm 5) tYesM (eOp ixD (eV 5) (eC (.int 0))) [5]
noncomputable def b__law_text_right_l0 : MS :=
    (sSeq (sAsg (eOp addD (eV 7) (eOp ixD (eV 5) (eC (.int 1)))) (gNm 7))
    sNext)
noncomputable def b__law_text_right_l1 : MS :=
    (sSeq (sExpr (eMeth mExtend (eV 8) (aCons (eCall f__law_items (aCons (eOp ixD (eV 5) (eC (.int 1))) aNil)) aNil)))
    sNext)
noncomputable def b__law_text_right : MS :=
    (sSeq (sPar 6 7 (aCons (eMeth mJoin (eC (.str "")) (aCons c__law_text_right_0 aNil)) (aCons (eTup aNil) aNil)))
    (sSeq (sFor (iAny (eV 1)) (gNm 5) b__law_text_right_l0)
    (sSeq (sAsg (eLst aNil) (gNm 8))
    (sSeq (sFor (iAny (eV 1)) (gNm 5) b__law_text_right_l1)
    (sSeq (sAsg (eV 2) (gTp 2 (gsCons (gNm 9) (gsCons (gNm 10) gsNil))))
    (sSeq (sIf (tTru (eIsi "int" (eV 10))) (sSeq (sRet (eCall (f__law_same 12) (aCons (eCall f__law_told (aCons (eV 0) (aCons (eOp addD (eV 6) (eV 9)) (aCons (eV 4) aNil)))) (aCons (eLst (aCons (eC .non) (aCons (eC .non) (aCons (eOp addD (eBi1 bLen (eV 6)) (eV 10)) (aCons (eC .non) aNil))))) aNil))))
    sNext) sNext)
    (sSeq (sIf (tVal (eOp neD (eOp ixD (eV 10) (eC (.int 0))) (eC (.int 0)))) (sSeq (sRet (eCall (f__law_same 12) (aCons (eCall f__law_told (aCons (eV 0) (aCons (eOp addD (eV 6) (eV 9)) (aCons (eV 4) aNil)))) (aCons (eLst (aCons (eC .non) (aCons (eC .non) (aCons (eBi1 bLen (eOp addD (eV 6) (eV 9))) (aCons (eTup (aCons (eOp ixD (eV 3) (eOp ixD (eV 10) (eC (.int 0)))) (aCons (eOp addD (eV 7) (eOp ixD (eV 10) (eC (.int 1)))) aNil))) aNil))))) aNil))))
    sNext) sNext)
    (sSeq (sAsg (eOp addD (eBi1 bTuple (eV 8)) (eCall f__law_items (aCons (eOp ixD (eV 10) (eC (.int 1))) aNil))) (gNm 8))
    (sSeq (sRet (eAndM (eOp eqD (eCall f__law_flat (aCons (eV 8) aNil)) (eOp addD (eV 7) (eOp ixD (eV 10) (eC (.int 1))))) (eCall (f__law_same 12) (aCons (eCall f__law_told (aCons (eV 0) (aCons (eOp addD (eV 6) (eV 9)) (aCons (eV 4) aNil)))) (aCons (eLst (aCons (eOp addD (eV 7) (eOp ixD (eV 10) (eC (.int 1)))) (aCons (eV 8) (aCons (eC .non) (aCons (eTup (aCons (eC (.int 0)) (aCons (eOp addD (eV 7) (eOp ixD (eV 10) (eC (.int 1)))) aNil))) aNil))))) aNil)))))
    sNext)))))))))
noncomputable def f__law_text_right : List D → Sto → R XR := runF 5 11 b__law_text_right
/-! _law_inner_right: level 13 -/
abbrev s__law_inner_right : Stmt := (top 69)
def N__law_inner_right : List Str := ["box", "plan", "reader", "words", "order", "named", "node", "home", "word", "some", "next_one", "ahead", "text", "due", "told"]
noncomputable def c__law_inner_right_0 : M := eComp (iAny (eV 3)) (gNm 8) (tVal (eOp eqD (eSl (eOp ixD (eV 8) (eC (.int 0))) none (some (eBi1 bLen (eV 7)))) (eV 7))) (eV 8) [8]
noncomputable def b__law_inner_right_l0 : MS :=
    (sSeq (sAsg (eOp ixD (eOp ixD (eV 1) (eC (.int 3))) (eV 6)) (gNm 7))
    (sSeq (sAsg c__law_inner_right_0 (gNm 9))
    (sSeq (sPar 8 10 (aCons (eCall f__law_pick (aCons (eV 0) (aCons (eV 9) aNil))) (aCons (eCall f__law_pick (aCons (eV 0) (aCons (eV 3) aNil))) aNil)))
    (sSeq (sAsg (eOp ixD (eCall f__law_behind (aCons (eV 1) (aCons (eV 7) aNil))) (eC (.int 1))) (gNm 11))
    (sSeq (sPar 12 13 (aCons (eOp addD (eSl (eOp ixD (eV 8) (eC (.int 0))) (some (eBi1 bLen (eV 7))) none) (eOp ixD (eV 10) (eC (.int 0)))) (aCons (eTup (aCons (eC (.int 0)) (aCons (eOp addD (eSl (eOp ixD (eV 8) (eC (.int 1))) (some (eBi1 bLen (eV 11))) none) (eOp ixD (eV 10) (eC (.int 1)))) aNil))) aNil)))
    (sSeq (sAsg (eIf (tTru (eV 5)) (eCallK 3 [2, 1, 0] f_read_from (aCons (eV 12) (aCons (eOp ixD (eV 4) (eV 6)) (aCons (eV 2) aNil)))) (eCall f_read_from (aCons (eV 2) (aCons (eOp ixD (eV 4) (eV 6)) (aCons (eV 12) aNil))))) (gNm 14))
    (sSeq (sIf (tNotM (tTru (eCall (f__law_same 12) (aCons (eV 14) (aCons (eV 13) aNil))))) (sSeq (sRet (eC (.bl false)))
    sNext) sNext)
    (sSeq (sAsg (eNotM (eV 5)) (gNm 5))
    sNext))))))))
noncomputable def b__law_inner_right : MS :=
    (sSeq (sFor (iRange2 (eC (.int 1)) (eBi1 bLen (eV 4))) (gNm 6) b__law_inner_right_l0)
    (sSeq (sRet (eC (.bl true)))
    sNext))
noncomputable def f__law_inner_right : List D → Sto → R XR := runF 6 15 b__law_inner_right
/-! _law_right: level 14 -/
abbrev s__law_right : Stmt := (top 70)
def N__law_right : List Str := ["box", "plan", "reader", "order", "named", "words", "due", "node", "told", "rests", "word", "part", "more", "rest", "some", "turn"]
noncomputable def c__law_right_0 : M := eComp (iRange1 (eC (.int 6))) (gNm 15) tYesM (eCall f__law_pick (aCons (eV 0) (aCons (eV 5) aNil))) [15]
noncomputable def c__law_right_1 : M := eComp (iRange1 (eCall f__law_take (aCons (eV 0) (aCons (eC (.int 9)) aNil)))) (gNm 15) tYesM (eCall f__law_pick (aCons (eV 0) (aCons (eV 5) aNil))) [15]
noncomputable def b__law_right_l0 : MS :=
    (sSeq (sAsg (eOp ixD (eOp ixD (eV 1) (eC (.int 2))) (eV 7)) (gSb (eV 6) (eOp ixD (eV 3) (eV 7))))
    sNext)
noncomputable def b__law_right_l1 : MS :=
    (sSeq (sAsg (eSl (eOp ixD (eV 10) (eC (.int 0))) none (some (eCall f__law_take (aCons (eV 0) (aCons (eOp addD (eBi1 bLen (eOp ixD (eV 10) (eC (.int 0)))) (eC (.int 1))) aNil))))) (gNm 11))
    (sSeq (sExpr (eMeth mAppend (eV 9) (aCons (eTup (aCons (eV 11) (aCons (eCall f__law_behind (aCons (eV 1) (aCons (eV 11) aNil))) aNil))) aNil)))
    (sSeq (sAsg (eOp addD (eV 11) (eOp ixD (eC (.str "abcdef")) (eCall f__law_take (aCons (eV 0) (aCons (eOp ixD (eV 1) (eC (.int 0))) aNil))))) (gNm 12))
    (sSeq (sExpr (eMeth mAppend (eV 9) (aCons (eTup (aCons (eV 12) (aCons (eCall f__law_behind (aCons (eV 1) (aCons (eV 12) aNil))) aNil))) aNil)))
    sNext))))
noncomputable def b__law_right_l2 : MS :=
    (sSeq (sAsg c__law_right_1 (gNm 14))
    (sSeq (sIf (tNotM (tTru (eCall f__law_text_right (aCons (eV 2) (aCons (eV 14) (aCons (eV 13) (aCons (eV 3) (aCons (eV 4) aNil)))))))) (sSeq (sRet (eC (.bl false)))
    sNext) sNext)
    (sSeq (sAsg (eNotM (eV 4)) (gNm 4))
    sNext)))
noncomputable def b__law_right : MS :=
    (sSeq (sAsg (eCall f__law_words (aCons (eV 1) aNil)) (gNm 5))
    (sSeq (sAsg (eOp mulD (eLst (aCons (eC .non) aNil)) (eBi1 bLen (eV 3))) (gNm 6))
    (sSeq (sFor (iRange1 (eBi1 bLen (eV 3))) (gNm 7) b__law_right_l0)
    (sSeq (sAsg (eIf (tTru (eV 4)) (eCallK 1 [0] f_modes (aCons (eV 2) aNil)) (eCall f_modes (aCons (eV 2) aNil))) (gNm 8))
    (sSeq (sIf (tOrM (tNotM (tTru (eCall (f__law_same 12) (aCons (eV 8) (aCons (eBi1 bTuple (eV 6)) aNil))))) (tNotM (tTru (eCall (f__law_same 12) (aCons (eLst (aCons (eUn (fldD "many" isCls) (eV 2)) (aCons (eUn (fldD "rows" isCls) (eV 2)) (aCons (eUn (fldD "ends" isCls) (eV 2)) aNil)))) (aCons (eLst (aCons (eOp ixD (eV 1) (eC (.int 0))) (aCons (eCall f__law_rows (aCons (eV 1) (aCons (eV 3) aNil))) (aCons (eTup (aCons (eC (.int 0)) aNil)) aNil)))) aNil)))))) (sSeq (sRet (eC (.bl false)))
    sNext) sNext)
    (sSeq (sAsg (eLst (aCons (eTup (aCons (eC (.str "")) (aCons (eTup (aCons (eC (.int 0)) (aCons (eTup aNil) aNil))) aNil))) aNil)) (gNm 9))
    (sSeq (sFor (iAny c__law_right_0) (gNm 10) b__law_right_l1)
    (sSeq (sFor (iAny (eV 9)) (gNm 13) b__law_right_l2)
    (sSeq (sRet (eCall f__law_inner_right (aCons (eV 0) (aCons (eV 1) (aCons (eV 2) (aCons (eV 5) (aCons (eV 3) (aCons (eV 4) aNil))))))))
    sNext)))))))))
noncomputable def f__law_right : List D → Sto → R XR := runF 5 16 b__law_right
/-! law: level 15 -/
abbrev s_law : Stmt := (top 71)
def N_law : List Str := ["script", "k", "box", "named", "plans", "orders", "readers", "turn", "many", "plan", "order", "at"]
noncomputable def b_law_l0 : MS :=
    (sSeq (sAsg (eCall f__law_pick (aCons (eV 2) (aCons (eLst (aCons (eC (.int 5)) (aCons (eC (.int 5)) (aCons (eC (.int 6)) (aCons (eC (.int 6)) (aCons (eC (.int 4)) (aCons (eC (.int 3)) (aCons (eC (.int 2)) aNil)))))))) aNil))) (gNm 8))
    (sSeq (sAsg (eCall f__law_planned (aCons (eV 2) (aCons (eV 8) (aCons (eCall f__law_pick (aCons (eV 2) (aCons (eLst (aCons (eC (.int 6)) (aCons (eC (.int 7)) (aCons (eC (.int 8)) (aCons (eC (.int 8)) (aCons (eC (.int 5)) (aCons (eC (.int 2)) aNil))))))) aNil))) aNil)))) (gNm 9))
    (sSeq (sAsg (eCall f__law_order (aCons (eV 2) (aCons (eBi1 bLen (eOp ixD (eV 9) (eC (.int 2)))) aNil))) (gNm 10))
    (sSeq (sExpr (eMeth mAppend (eV 4) (aCons (eV 9) aNil)))
    (sSeq (sExpr (eMeth mAppend (eV 5) (aCons (eV 10) aNil)))
    (sSeq (sExpr (eMeth mAppend (eV 6) (aCons (eIf (tTru (eV 3)) (eMakeK "Reader" 3 [2, 1, 0] f_Reader___init__ (aCons (eTup (aCons (eC (.int 0)) aNil)) (aCons (eCall f__law_rows (aCons (eV 9) (aCons (eV 10) aNil))) (aCons (eV 8) aNil)))) (eMake "Reader" f_Reader___init__ (aCons (eV 8) (aCons (eCall f__law_rows (aCons (eV 9) (aCons (eV 10) aNil))) (aCons (eTup (aCons (eC (.int 0)) aNil)) aNil))))) aNil)))
    sNext))))))
noncomputable def b_law_l1 : MS :=
    (sSeq (sIf (tNotM (tTru (eCall f__law_right (aCons (eV 2) (aCons (eOp ixD (eV 4) (eV 11)) (aCons (eOp ixD (eV 6) (eV 11)) (aCons (eOp ixD (eV 5) (eV 11)) (aCons (eV 3) aNil)))))))) (sSeq (sRet (eC (.bl false)))
    sNext) sNext)
    (sSeq (sAsg (eNotM (eV 3)) (gNm 3))
    sNext))
noncomputable def b_law_l2 : MS :=
    (sSeq (sAsg (eCall f__law_box (aCons (eCall f__law_cell (aCons (eV 0) (aCons (eV 1) aNil))) aNil)) (gNm 2))
    (sSeq (sAsg (eTup (aCons (eOp eqD (eCall f__law_take (aCons (eV 2) (aCons (eC (.int 2)) aNil))) (eC (.int 0))) (aCons (eLst aNil) (aCons (eLst aNil) (aCons (eLst aNil) aNil))))) (gTp 4 (gsCons (gNm 3) (gsCons (gNm 4) (gsCons (gNm 5) (gsCons (gNm 6) gsNil))))))
    (sSeq (sFor (iRange1 (eC (.int 2))) (gNm 7) b_law_l0)
    (sSeq (sFor (iAny (eLst (aCons (eC (.int 0)) (aCons (eC (.int 1)) (aCons (eC (.int 0)) aNil))))) (gNm 11) b_law_l1)
    sNext))))
noncomputable def b_law : MS :=
    (sSeq (sFor (iRange1 (eOp bMax2 (eC (.int 2)) (eOp bMin2 (eC (.int 4)) (eBi1 bLen (eV 0))))) (gNm 1) b_law_l2)
    (sSeq (sRet (eC (.bl true)))
    sNext))
noncomputable def f_law : List D → Sto → R XR := runF 1 12 b_law
end K0
namespace K0
open PySem L2 PyProof.Rows Ev
structure Tx (K : PySem.W.Frag) (mg : Str → Option Value) where
  a_is_integer : Addr
  d_is_integer : FuncData
  F_is_integer : Fun K "is_integer" "is_integer" s_is_integer a_is_integer d_is_integer
  m_is_integer : mg "is_integer" = some (.ref a_is_integer)
  a_is_between : Addr
  d_is_between : FuncData
  F_is_between : Fun K "is_between" "is_between" s_is_between a_is_between d_is_between
  m_is_between : mg "is_between" = some (.ref a_is_between)
  a_is_tuple : Addr
  d_is_tuple : FuncData
  F_is_tuple : Fun K "is_tuple" "is_tuple" s_is_tuple a_is_tuple d_is_tuple
  m_is_tuple : mg "is_tuple" = some (.ref a_is_tuple)
  a_is_tuple_up_to : Addr
  d_is_tuple_up_to : FuncData
  F_is_tuple_up_to : Fun K "is_tuple_up_to" "is_tuple_up_to" s_is_tuple_up_to a_is_tuple_up_to d_is_tuple_up_to
  m_is_tuple_up_to : mg "is_tuple_up_to" = some (.ref a_is_tuple_up_to)
  a_is_ascending : Addr
  d_is_ascending : FuncData
  F_is_ascending : Fun K "is_ascending" "is_ascending" s_is_ascending a_is_ascending d_is_ascending
  m_is_ascending : mg "is_ascending" = some (.ref a_is_ascending)
  a_is_set : Addr
  d_is_set : FuncData
  F_is_set : Fun K "is_set" "is_set" s_is_set a_is_set d_is_set
  m_is_set : mg "is_set" = some (.ref a_is_set)
  a_is_many : Addr
  d_is_many : FuncData
  F_is_many : Fun K "is_many" "is_many" s_is_many a_is_many d_is_many
  m_is_many : mg "is_many" = some (.ref a_is_many)
  a_is_sign : Addr
  d_is_sign : FuncData
  F_is_sign : Fun K "is_sign" "is_sign" s_is_sign a_is_sign d_is_sign
  m_is_sign : mg "is_sign" = some (.ref a_is_sign)
  a_is_text_up_to : Addr
  d_is_text_up_to : FuncData
  F_is_text_up_to : Fun K "is_text_up_to" "is_text_up_to" s_is_text_up_to a_is_text_up_to d_is_text_up_to
  m_is_text_up_to : mg "is_text_up_to" = some (.ref a_is_text_up_to)
  a_is_text : Addr
  d_is_text : FuncData
  F_is_text : Fun K "is_text" "is_text" s_is_text a_is_text d_is_text
  m_is_text : mg "is_text" = some (.ref a_is_text)
  a_is_event : Addr
  d_is_event : FuncData
  F_is_event : Fun K "is_event" "is_event" s_is_event a_is_event d_is_event
  m_is_event : mg "is_event" = some (.ref a_is_event)
  a_is_entry : Addr
  d_is_entry : FuncData
  F_is_entry : Fun K "is_entry" "is_entry" s_is_entry a_is_entry d_is_entry
  m_is_entry : mg "is_entry" = some (.ref a_is_entry)
  a_are_rows : Addr
  d_are_rows : FuncData
  F_are_rows : Fun K "are_rows" "are_rows" s_are_rows a_are_rows d_are_rows
  m_are_rows : mg "are_rows" = some (.ref a_are_rows)
  a_states_in : Addr
  d_states_in : FuncData
  F_states_in : Fun K "states_in" "states_in" s_states_in a_states_in d_states_in
  m_states_in : mg "states_in" = some (.ref a_states_in)
  a_mode_behind : Addr
  d_mode_behind : FuncData
  F_mode_behind : Fun K "mode_behind" "mode_behind" s_mode_behind a_mode_behind d_mode_behind
  m_mode_behind : mg "mode_behind" = some (.ref a_mode_behind)
  a_modes_in : Addr
  d_modes_in : FuncData
  F_modes_in : Fun K "modes_in" "modes_in" s_modes_in a_modes_in d_modes_in
  m_modes_in : mg "modes_in" = some (.ref a_modes_in)
  a_are_ends : Addr
  d_are_ends : FuncData
  F_are_ends : Fun K "are_ends" "are_ends" s_are_ends a_are_ends d_are_ends
  m_are_ends : mg "are_ends" = some (.ref a_are_ends)
  a_Reader___init__ : Addr
  d_Reader___init__ : FuncData
  F_Reader___init__ : Fun K "__init__" "Reader.__init__" s_Reader___init__ a_Reader___init__ d_Reader___init__
  a_check_state : Addr
  d_check_state : FuncData
  F_check_state : Fun K "check_state" "check_state" s_check_state a_check_state d_check_state
  m_check_state : mg "check_state" = some (.ref a_check_state)
  a_check_text : Addr
  d_check_text : FuncData
  F_check_text : Fun K "check_text" "check_text" s_check_text a_check_text d_check_text
  m_check_text : mg "check_text" = some (.ref a_check_text)
  a_modes : Addr
  d_modes : FuncData
  F_modes : Fun K "modes" "modes" s_modes a_modes d_modes
  m_modes : mg "modes" = some (.ref a_modes)
  a_entry_for : Addr
  d_entry_for : FuncData
  F_entry_for : Fun K "entry_for" "entry_for" s_entry_for a_entry_for d_entry_for
  m_entry_for : mg "entry_for" = some (.ref a_entry_for)
  a_read_on : Addr
  d_read_on : FuncData
  F_read_on : Fun K "read_on" "read_on" s_read_on a_read_on d_read_on
  m_read_on : mg "read_on" = some (.ref a_read_on)
  a_read_from : Addr
  d_read_from : FuncData
  F_read_from : Fun K "read_from" "read_from" s_read_from a_read_from d_read_from
  m_read_from : mg "read_from" = some (.ref a_read_from)
  a_reading_of : Addr
  d_reading_of : FuncData
  F_reading_of : Fun K "reading_of" "reading_of" s_reading_of a_reading_of d_reading_of
  m_reading_of : mg "reading_of" = some (.ref a_reading_of)
  a_reads : Addr
  d_reads : FuncData
  F_reads : Fun K "reads" "reads" s_reads a_reads d_reads
  m_reads : mg "reads" = some (.ref a_reads)
  a_items_in : Addr
  d_items_in : FuncData
  F_items_in : Fun K "items_in" "items_in" s_items_in a_items_in d_items_in
  m_items_in : mg "items_in" = some (.ref a_items_in)
  a_items : Addr
  d_items : FuncData
  F_items : Fun K "items" "items" s_items a_items d_items
  m_items : mg "items" = some (.ref a_items)
  a_stuck_at : Addr
  d_stuck_at : FuncData
  F_stuck_at : Fun K "stuck_at" "stuck_at" s_stuck_at a_stuck_at d_stuck_at
  m_stuck_at : mg "stuck_at" = some (.ref a_stuck_at)
  a__law_cell : Addr
  d__law_cell : FuncData
  F__law_cell : Fun K "_law_cell" "_law_cell" s__law_cell a__law_cell d__law_cell
  m__law_cell : mg "_law_cell" = some (.ref a__law_cell)
  a__law_box : Addr
  d__law_box : FuncData
  F__law_box : Fun K "_law_box" "_law_box" s__law_box a__law_box d__law_box
  m__law_box : mg "_law_box" = some (.ref a__law_box)
  a__law_take : Addr
  d__law_take : FuncData
  F__law_take : Fun K "_law_take" "_law_take" s__law_take a__law_take d__law_take
  m__law_take : mg "_law_take" = some (.ref a__law_take)
  a__law_pick : Addr
  d__law_pick : FuncData
  F__law_pick : Fun K "_law_pick" "_law_pick" s__law_pick a__law_pick d__law_pick
  m__law_pick : mg "_law_pick" = some (.ref a__law_pick)
  a__law_same : Addr
  d__law_same : FuncData
  F__law_same : Fun K "_law_same" "_law_same" s__law_same a__law_same d__law_same
  m__law_same : mg "_law_same" = some (.ref a__law_same)
  a__law_events : Addr
  d__law_events : FuncData
  F__law_events : Fun K "_law_events" "_law_events" s__law_events a__law_events d__law_events
  m__law_events : mg "_law_events" = some (.ref a__law_events)
  a__law_planned : Addr
  d__law_planned : FuncData
  F__law_planned : Fun K "_law_planned" "_law_planned" s__law_planned a__law_planned d__law_planned
  m__law_planned : mg "_law_planned" = some (.ref a__law_planned)
  a__law_words : Addr
  d__law_words : FuncData
  F__law_words : Fun K "_law_words" "_law_words" s__law_words a__law_words d__law_words
  m__law_words : mg "_law_words" = some (.ref a__law_words)
  a__law_rows : Addr
  d__law_rows : FuncData
  F__law_rows : Fun K "_law_rows" "_law_rows" s__law_rows a__law_rows d__law_rows
  m__law_rows : mg "_law_rows" = some (.ref a__law_rows)
  a__law_order : Addr
  d__law_order : FuncData
  F__law_order : Fun K "_law_order" "_law_order" s__law_order a__law_order d__law_order
  m__law_order : mg "_law_order" = some (.ref a__law_order)
  a__law_items : Addr
  d__law_items : FuncData
  F__law_items : Fun K "_law_items" "_law_items" s__law_items a__law_items d__law_items
  m__law_items : mg "_law_items" = some (.ref a__law_items)
  a__law_behind : Addr
  d__law_behind : FuncData
  F__law_behind : Fun K "_law_behind" "_law_behind" s__law_behind a__law_behind d__law_behind
  m__law_behind : mg "_law_behind" = some (.ref a__law_behind)
  a__law_flat : Addr
  d__law_flat : FuncData
  F__law_flat : Fun K "_law_flat" "_law_flat" s__law_flat a__law_flat d__law_flat
  m__law_flat : mg "_law_flat" = some (.ref a__law_flat)
  a__law_told : Addr
  d__law_told : FuncData
  F__law_told : Fun K "_law_told" "_law_told" s__law_told a__law_told d__law_told
  m__law_told : mg "_law_told" = some (.ref a__law_told)
  a__law_text_right : Addr
  d__law_text_right : FuncData
  F__law_text_right : Fun K "_law_text_right" "_law_text_right" s__law_text_right a__law_text_right d__law_text_right
  m__law_text_right : mg "_law_text_right" = some (.ref a__law_text_right)
  a__law_inner_right : Addr
  d__law_inner_right : FuncData
  F__law_inner_right : Fun K "_law_inner_right" "_law_inner_right" s__law_inner_right a__law_inner_right d__law_inner_right
  m__law_inner_right : mg "_law_inner_right" = some (.ref a__law_inner_right)
  a__law_right : Addr
  d__law_right : FuncData
  F__law_right : Fun K "_law_right" "_law_right" s__law_right a__law_right d__law_right
  m__law_right : mg "_law_right" = some (.ref a__law_right)
  a_law : Addr
  d_law : FuncData
  F_law : Fun K "law" "law" s_law a_law d_law
  m_law : mg "law" = some (.ref a_law)
  C_Reader : Addr
  m_Reader : mg "Reader" = some (.ref C_Reader)
  k_Reader : Mk K C_Reader a_Reader___init__
  cl_Reader : Cls K C_Reader
  na_Reader_many : NoAttr K C_Reader "many"
  na_Reader_rows : NoAttr K C_Reader "rows"
  na_Reader_ends : NoAttr K C_Reader "ends"
  na_Reader__modes : NoAttr K C_Reader "_modes"
  n_isinstance : mg "isinstance" = none
  n_int : mg "int" = none
  n_bool : mg "bool" = none
  n_tuple : mg "tuple" = none
  n_len : mg "len" = none
  n_all : mg "all" = none
  n_range : mg "range" = none
  n_str : mg "str" = none
  n_enumerate : mg "enumerate" = none
  n_sum : mg "sum" = none
  n_abs : mg "abs" = none
  n_list : mg "list" = none
  n_min : mg "min" = none
  n_sorted : mg "sorted" = none
  n_max : mg "max" = none
  t_SIGNS : Tok
  c_SIGNS : mg "SIGNS" = some (.str "abcdef" t_SIGNS)
  t_LEAST_SIGNS : Tok
  c_LEAST_SIGNS : mg "LEAST_SIGNS" = some (.int 2 t_LEAST_SIGNS)
  t_MOST_SIGNS : Tok
  c_MOST_SIGNS : mg "MOST_SIGNS" = some (.int 6 t_MOST_SIGNS)
  t_MOST_TEXT : Tok
  c_MOST_TEXT : mg "MOST_TEXT" = some (.int 400 t_MOST_TEXT)
  t_MOST_MARK : Tok
  c_MOST_MARK : mg "MOST_MARK" = some (.int 5 t_MOST_MARK)
  t_MOST_KIND : Tok
  c_MOST_KIND : mg "MOST_KIND" = some (.int 2 t_MOST_KIND)
  t_MARK : Tok
  c_MARK : mg "MARK" = some (.str "mark" t_MARK)
  t_OPEN : Tok
  c_OPEN : mg "OPEN" = some (.str "open" t_OPEN)
  t_SAY : Tok
  c_SAY : mg "SAY" = some (.str "say" t_SAY)
  t_SHUT : Tok
  v_SHUT : Nat
  e_SHUT : Option Addr
  z_SHUT : Array (Option Value)
  p_SHUT : Addr
  c_SHUT : mg "SHUT" = some (.ref p_SHUT)
  l_SHUT : K.lookup p_SHUT = some ⟨.type "tuple", e_SHUT, .seq #[.str "shut" t_SHUT] v_SHUT, z_SHUT⟩
  t_MOST_STATES : Tok
  c_MOST_STATES : mg "MOST_STATES" = some (.int 8 t_MOST_STATES)
  t_MOST_EVENTS : Tok
  c_MOST_EVENTS : mg "MOST_EVENTS" = some (.int 2 t_MOST_EVENTS)
section
variable {P : Program} {w : World} {K : PySem.W.Frag} {mg : Str → Option Value} {base : Heap} {X : Cx}
theorem fo_many (T : Tx K mg) (hK : X.K = K) (hm : X.mg = mg) : FldOk X "many" isCls := fun c hc C h => by
  subst hK; subst hm
  have e : c = "Reader" := of_decide_eq_true hc
  subst e
  have e2 := T.m_Reader.symm.trans h
  cases e2
  exact ⟨T.cl_Reader, T.na_Reader_many⟩
theorem fo_rows (T : Tx K mg) (hK : X.K = K) (hm : X.mg = mg) : FldOk X "rows" isCls := fun c hc C h => by
  subst hK; subst hm
  have e : c = "Reader" := of_decide_eq_true hc
  subst e
  have e2 := T.m_Reader.symm.trans h
  cases e2
  exact ⟨T.cl_Reader, T.na_Reader_rows⟩
theorem fo_ends (T : Tx K mg) (hK : X.K = K) (hm : X.mg = mg) : FldOk X "ends" isCls := fun c hc C h => by
  subst hK; subst hm
  have e : c = "Reader" := of_decide_eq_true hc
  subst e
  have e2 := T.m_Reader.symm.trans h
  cases e2
  exact ⟨T.cl_Reader, T.na_Reader_ends⟩
theorem fo__modes (T : Tx K mg) (hK : X.K = K) (hm : X.mg = mg) : FldOk X "_modes" isCls := fun c hc C h => by
  subst hK; subst hm
  have e : c = "Reader" := of_decide_eq_true hc
  subst e
  have e2 := T.m_Reader.symm.trans h
  cases e2
  exact ⟨T.cl_Reader, T.na_Reader__modes⟩
theorem bd_is_integer (T : Tx K mg) : Binds K T.d_is_integer ["value"] [] := T.F_is_integer.binds fun _ _ _ _ _ _ us hl => match us, hl with | [_], _ => rfl
theorem nd_is_integer : N_is_integer.Nodup := by decide +kernel
theorem sc_is_integer : FnScope N_is_integer ["value"] (defScope s_is_integer) := ⟨rfl, rfl, rfl, nd_is_integer, rfl, by decide +kernel, by decide +kernel⟩
theorem dv_is_integer (T : Tx K mg) (cdv : Value) (A : Around) (outer : List PySem.Env) (s : Shared) (H : Hp) (E : XK) (hr : Room 0 (A.deeper (envOfC "is_integer" (defScope s_is_integer) s.heap.objs.size T.a_is_integer cdv))) :
    SSs (cxOf CX0 P w K mg base N_is_integer "is_integer" (defScope s_is_integer) T.a_is_integer cdv A outer s H E).nox (defBody s_is_integer) b_is_integer :=
    (sss_cons (ss_ret (se_and (se_isi ⟨rfl, T.n_int, rfl, by decide, by decide⟩ rfl T.n_isinstance rfl (se_var rfl (.inl rfl) (by decide) (by decide)) (by decide) (by decide) rfl) (se_one (se_not (se_isi ⟨rfl, T.n_bool, rfl, by decide, by decide⟩ rfl T.n_isinstance rfl (se_var rfl (.inl rfl) (by decide) (by decide)) (by decide) (by decide) rfl)))))
    sss_nil)
theorem ok_is_integer (T : Tx K mg) : FnOk P w K mg base CX0 1 T.a_is_integer T.d_is_integer ["value"] (spF K mg 1 f_is_integer) := fn_ev T.F_is_integer sc_is_integer (dv_is_integer T)
theorem bd_is_between (T : Tx K mg) : Binds K T.d_is_between ["value", "low", "high"] [] := T.F_is_between.binds fun _ _ _ _ _ _ us hl => match us, hl with | [_, _, _], _ => rfl
theorem nd_is_between : N_is_between.Nodup := by decide +kernel
theorem sc_is_between : FnScope N_is_between ["value", "low", "high"] (defScope s_is_between) := ⟨rfl, rfl, rfl, nd_is_between, rfl, by decide +kernel, by decide +kernel⟩
theorem dv_is_between (T : Tx K mg) (cdv : Value) (A : Around) (outer : List PySem.Env) (s : Shared) (H : Hp) (E : XK) (hr : Room 1 (A.deeper (envOfC "is_between" (defScope s_is_between) s.heap.objs.size T.a_is_between cdv))) :
    SSs (cxOf CX0 P w K mg base N_is_between "is_between" (defScope s_is_between) T.a_is_between cdv A outer s H E).nox (defBody s_is_between) b_is_between :=
    (sss_cons (ss_ret (se_and (se_call (ok_is_integer T) runF_len (hr.mono (by omega)) rfl T.m_is_integer T.F_is_integer.kp (bd_is_integer T) (sa_cons (se_var rfl (.inl rfl) (by decide) (by decide)) sa_nil rfl) (by decide) rfl rfl) (se_one (se_chain op_le op_le sLe sLe rfl (se_var rfl (.inl rfl) (by decide) (by decide)) (se_var rfl (.inl rfl) (by decide) (by decide)) (se_var rfl (.inl rfl) (by decide) (by decide))))))
    sss_nil)
theorem ok_is_between (T : Tx K mg) : FnOk P w K mg base CX0 2 T.a_is_between T.d_is_between ["value", "low", "high"] (spF K mg 3 f_is_between) := fn_ev T.F_is_between sc_is_between (dv_is_between T)
theorem bd_is_tuple (T : Tx K mg) : Binds K T.d_is_tuple ["value", "length"] [] := T.F_is_tuple.binds fun _ _ _ _ _ _ us hl => match us, hl with | [_, _], _ => rfl
theorem nd_is_tuple : N_is_tuple.Nodup := by decide +kernel
theorem sc_is_tuple : FnScope N_is_tuple ["value", "length"] (defScope s_is_tuple) := ⟨rfl, rfl, rfl, nd_is_tuple, rfl, by decide +kernel, by decide +kernel⟩
theorem dv_is_tuple (T : Tx K mg) (cdv : Value) (A : Around) (outer : List PySem.Env) (s : Shared) (H : Hp) (E : XK) (hr : Room 0 (A.deeper (envOfC "is_tuple" (defScope s_is_tuple) s.heap.objs.size T.a_is_tuple cdv))) :
    SSs (cxOf CX0 P w K mg base N_is_tuple "is_tuple" (defScope s_is_tuple) T.a_is_tuple cdv A outer s H E).nox (defBody s_is_tuple) b_is_tuple :=
    (sss_cons (ss_ret (se_and (se_isi ⟨rfl, T.n_tuple, rfl, by decide, by decide⟩ rfl T.n_isinstance rfl (se_var rfl (.inl rfl) (by decide) (by decide)) (by decide) (by decide) rfl) (se_one (se_cmp (op_eqD (Room_u64 hr)) sEq (nomark _) (b_len rfl T.n_len (se_var rfl (.inl rfl) (by decide) (by decide)) rfl) (se_var rfl (.inl rfl) (by decide) (by decide))))))
    sss_nil)
theorem ok_is_tuple (T : Tx K mg) : FnOk P w K mg base CX0 1 T.a_is_tuple T.d_is_tuple ["value", "length"] (spF K mg 2 f_is_tuple) := fn_ev T.F_is_tuple sc_is_tuple (dv_is_tuple T)
theorem bd_is_tuple_up_to (T : Tx K mg) : Binds K T.d_is_tuple_up_to ["value", "low", "high"] [] := T.F_is_tuple_up_to.binds fun _ _ _ _ _ _ us hl => match us, hl with | [_, _, _], _ => rfl
theorem nd_is_tuple_up_to : N_is_tuple_up_to.Nodup := by decide +kernel
theorem sc_is_tuple_up_to : FnScope N_is_tuple_up_to ["value", "low", "high"] (defScope s_is_tuple_up_to) := ⟨rfl, rfl, rfl, nd_is_tuple_up_to, rfl, by decide +kernel, by decide +kernel⟩
theorem dv_is_tuple_up_to (T : Tx K mg) (cdv : Value) (A : Around) (outer : List PySem.Env) (s : Shared) (H : Hp) (E : XK) (hr : Room 0 (A.deeper (envOfC "is_tuple_up_to" (defScope s_is_tuple_up_to) s.heap.objs.size T.a_is_tuple_up_to cdv))) :
    SSs (cxOf CX0 P w K mg base N_is_tuple_up_to "is_tuple_up_to" (defScope s_is_tuple_up_to) T.a_is_tuple_up_to cdv A outer s H E).nox (defBody s_is_tuple_up_to) b_is_tuple_up_to :=
    (sss_cons (ss_ret (se_and (se_isi ⟨rfl, T.n_tuple, rfl, by decide, by decide⟩ rfl T.n_isinstance rfl (se_var rfl (.inl rfl) (by decide) (by decide)) (by decide) (by decide) rfl) (se_one (se_chain op_le op_le sLe sLe rfl (se_var rfl (.inl rfl) (by decide) (by decide)) (b_len rfl T.n_len (se_var rfl (.inl rfl) (by decide) (by decide)) rfl) (se_var rfl (.inl rfl) (by decide) (by decide))))))
    sss_nil)
theorem ok_is_tuple_up_to (T : Tx K mg) : FnOk P w K mg base CX0 1 T.a_is_tuple_up_to T.d_is_tuple_up_to ["value", "low", "high"] (spF K mg 3 f_is_tuple_up_to) := fn_ev T.F_is_tuple_up_to sc_is_tuple_up_to (dv_is_tuple_up_to T)
theorem bd_is_ascending (T : Tx K mg) : Binds K T.d_is_ascending ["items"] [] := T.F_is_ascending.binds fun _ _ _ _ _ _ us hl => match us, hl with | [_], _ => rfl
theorem nd_is_ascending : N_is_ascending.Nodup := by decide +kernel
theorem sc_is_ascending : FnScope N_is_ascending ["items"] (defScope s_is_ascending) := ⟨rfl, rfl, rfl, nd_is_ascending, rfl, by decide +kernel, by decide +kernel⟩
theorem dv_is_ascending (T : Tx K mg) (cdv : Value) (A : Around) (outer : List PySem.Env) (s : Shared) (H : Hp) (E : XK) (hr : Room 0 (A.deeper (envOfC "is_ascending" (defScope s_is_ascending) s.heap.objs.size T.a_is_ascending cdv))) :
    SSs (cxOf CX0 P w K mg base N_is_ascending "is_ascending" (defScope s_is_ascending) T.a_is_ascending cdv A outer s H E).nox (defBody s_is_ascending) b_is_ascending :=
    (sss_cons (ss_ret (b_all rfl rfl T.n_all (se_comp (own := [("at", 1)]) rfl nd_is_ascending (si_range1 rfl T.n_range (se_op op_sub sSub (b_len rfl T.n_len (se_var rfl (.inr (.inl rfl)) (by decide) (by decide)) rfl) se_int) rfl) (blkOk_by rfl) (fun _ _ _ _ _ => (sg_name nd_is_ascending rfl (.inl rfl) (.inr rfl))) (fun _ _ _ _ _ => sts_nil) (fun _ _ _ _ _ => (se_cmp op_ltA sLt (nomark _) (se_ix (Room_u1 hr) (fun _ _ => rfl) (se_var rfl (.inr (.inl rfl)) (by decide) (by decide)) (se_var rfl (.inl rfl) (by decide) (by decide))) (se_ix (Room_u1 hr) (fun _ _ => rfl) (se_var rfl (.inr (.inl rfl)) (by decide) (by decide)) (se_op op_addA sAdd (se_var rfl (.inl rfl) (by decide) (by decide)) se_int)))) (by decide) (fun _ => rfl)) rfl))
    sss_nil)
theorem ok_is_ascending (T : Tx K mg) : FnOk P w K mg base CX0 1 T.a_is_ascending T.d_is_ascending ["items"] (spF K mg 1 f_is_ascending) := fn_ev T.F_is_ascending sc_is_ascending (dv_is_ascending T)
theorem bd_is_set (T : Tx K mg) : Binds K T.d_is_set ["value", "many"] [] := T.F_is_set.binds fun _ _ _ _ _ _ us hl => match us, hl with | [_, _], _ => rfl
theorem nd_is_set : N_is_set.Nodup := by decide +kernel
theorem sc_is_set : FnScope N_is_set ["value", "many"] (defScope s_is_set) := ⟨rfl, rfl, rfl, nd_is_set, rfl, by decide +kernel, by decide +kernel⟩
theorem dv_is_set (T : Tx K mg) (cdv : Value) (A : Around) (outer : List PySem.Env) (s : Shared) (H : Hp) (E : XK) (hr : Room 2 (A.deeper (envOfC "is_set" (defScope s_is_set) s.heap.objs.size T.a_is_set cdv))) :
    SSs (cxOf CX0 P w K mg base N_is_set "is_set" (defScope s_is_set) T.a_is_set cdv A outer s H E).nox (defBody s_is_set) b_is_set :=
    (sss_cons (ss_if (PW.pt (sw_or (st_not (st_truth (se_isi ⟨rfl, T.n_tuple, rfl, by decide, by decide⟩ rfl T.n_isinstance rfl (se_var rfl (.inl rfl) (by decide) (by decide)) (by decide) (by decide) rfl) (fun _ => rfl))) (sw_or1 (st_not (st_truth (b_all rfl rfl T.n_all (se_comp (own := [("item", 2)]) rfl nd_is_set (si_any (se_var rfl (.inl rfl) (by decide) (by decide))) (blkOk_by rfl) (fun _ _ _ _ _ => (sg_name nd_is_set rfl (.inl rfl) (.inr rfl))) (fun _ _ _ _ _ => sts_nil) (fun _ _ _ _ _ => (se_call (ok_is_between T) runF_len (hr.mono (by omega)) rfl T.m_is_between T.F_is_between.kp (bd_is_between T) (sa_cons (se_var rfl (.inl rfl) (by decide) (by decide)) (sa_cons se_int (sa_cons (se_op op_sub sSub (se_var rfl (.inr (.inl rfl)) (by decide) (by decide)) se_int) sa_nil rfl) rfl) rfl) (by decide) rfl rfl)) (by decide) (fun _ => rfl)) rfl) (fun _ => rfl)))))) (sss_cons (ss_ret se_bl)
    sss_nil) sss_nil)
    (sss_cons (ss_ret (se_call (ok_is_ascending T) runF_len (hr.mono (by omega)) rfl T.m_is_ascending T.F_is_ascending.kp (bd_is_ascending T) (sa_cons (se_var rfl (.inl rfl) (by decide) (by decide)) sa_nil rfl) (by decide) rfl rfl))
    sss_nil))
theorem ok_is_set (T : Tx K mg) : FnOk P w K mg base CX0 3 T.a_is_set T.d_is_set ["value", "many"] (spF K mg 2 f_is_set) := fn_ev T.F_is_set sc_is_set (dv_is_set T)
theorem bd_is_many (T : Tx K mg) : Binds K T.d_is_many ["value"] [] := T.F_is_many.binds fun _ _ _ _ _ _ us hl => match us, hl with | [_], _ => rfl
theorem nd_is_many : N_is_many.Nodup := by decide +kernel
theorem sc_is_many : FnScope N_is_many ["value"] (defScope s_is_many) := ⟨rfl, rfl, rfl, nd_is_many, rfl, by decide +kernel, by decide +kernel⟩
theorem dv_is_many (T : Tx K mg) (cdv : Value) (A : Around) (outer : List PySem.Env) (s : Shared) (H : Hp) (E : XK) (hr : Room 2 (A.deeper (envOfC "is_many" (defScope s_is_many) s.heap.objs.size T.a_is_many cdv))) :
    SSs (cxOf CX0 P w K mg base N_is_many "is_many" (defScope s_is_many) T.a_is_many cdv A outer s H E).nox (defBody s_is_many) b_is_many :=
    (sss_cons (ss_ret (se_call (ok_is_between T) runF_len (hr.mono (by omega)) rfl T.m_is_between T.F_is_between.kp (bd_is_between T) (sa_cons (se_var rfl (.inl rfl) (by decide) (by decide)) (sa_cons (gl_int rfl T.c_LEAST_SIGNS (by decide)) (sa_cons (gl_int rfl T.c_MOST_SIGNS (by decide)) sa_nil rfl) rfl) rfl) (by decide) rfl rfl))
    sss_nil)
theorem ok_is_many (T : Tx K mg) : FnOk P w K mg base CX0 3 T.a_is_many T.d_is_many ["value"] (spF K mg 1 f_is_many) := fn_ev T.F_is_many sc_is_many (dv_is_many T)
theorem bd_is_sign (T : Tx K mg) : Binds K T.d_is_sign ["many", "value"] [] := T.F_is_sign.binds fun _ _ _ _ _ _ us hl => match us, hl with | [_, _], _ => rfl
theorem nd_is_sign : N_is_sign.Nodup := by decide +kernel
theorem sc_is_sign : FnScope N_is_sign ["many", "value"] (defScope s_is_sign) := ⟨rfl, rfl, rfl, nd_is_sign, rfl, by decide +kernel, by decide +kernel⟩
theorem dv_is_sign (T : Tx K mg) (cdv : Value) (A : Around) (outer : List PySem.Env) (s : Shared) (H : Hp) (E : XK) (hr : Room 0 (A.deeper (envOfC "is_sign" (defScope s_is_sign) s.heap.objs.size T.a_is_sign cdv))) :
    SSs (cxOf CX0 P w K mg base N_is_sign "is_sign" (defScope s_is_sign) T.a_is_sign cdv A outer s H E).nox (defBody s_is_sign) b_is_sign :=
    (sss_cons (ss_ret (se_and (se_isi ⟨rfl, T.n_str, rfl, by decide, by decide⟩ rfl T.n_isinstance rfl (se_var rfl (.inl rfl) (by decide) (by decide)) (by decide) (by decide) rfl) (se_and (se_cmp (op_eqD (Room_u64 hr)) sEq (nomark _) (b_len rfl T.n_len (se_var rfl (.inl rfl) (by decide) (by decide)) rfl) se_int) (se_one (se_cmp (op_inA (Room_u65 hr)) sIn rfl (se_var rfl (.inl rfl) (by decide) (by decide)) (se_sl (gl_str rfl T.c_SIGNS (by decide)) so_none (so_some (se_var rfl (.inl rfl) (by decide) (by decide)))))))))
    sss_nil)
theorem ok_is_sign (T : Tx K mg) : FnOk P w K mg base CX0 1 T.a_is_sign T.d_is_sign ["many", "value"] (spF K mg 2 f_is_sign) := fn_ev T.F_is_sign sc_is_sign (dv_is_sign T)
theorem bd_is_text_up_to (T : Tx K mg) : Binds K T.d_is_text_up_to ["many", "value", "length"] [] := T.F_is_text_up_to.binds fun _ _ _ _ _ _ us hl => match us, hl with | [_, _, _], _ => rfl
theorem nd_is_text_up_to : N_is_text_up_to.Nodup := by decide +kernel
theorem sc_is_text_up_to : FnScope N_is_text_up_to ["many", "value", "length"] (defScope s_is_text_up_to) := ⟨rfl, rfl, rfl, nd_is_text_up_to, rfl, by decide +kernel, by decide +kernel⟩
theorem dv_is_text_up_to (T : Tx K mg) (cdv : Value) (A : Around) (outer : List PySem.Env) (s : Shared) (H : Hp) (E : XK) (hr : Room 0 (A.deeper (envOfC "is_text_up_to" (defScope s_is_text_up_to) s.heap.objs.size T.a_is_text_up_to cdv))) :
    SSs (cxOf CX0 P w K mg base N_is_text_up_to "is_text_up_to" (defScope s_is_text_up_to) T.a_is_text_up_to cdv A outer s H E).nox (defBody s_is_text_up_to) b_is_text_up_to :=
    (sss_cons (ss_if (PW.pt (sw_or (st_not (st_truth (se_isi ⟨rfl, T.n_str, rfl, by decide, by decide⟩ rfl T.n_isinstance rfl (se_var rfl (.inl rfl) (by decide) (by decide)) (by decide) (by decide) rfl) (fun _ => rfl))) (sw_or1 (st_cmp op_gtA sGt (nomark _) (b_len rfl T.n_len (se_var rfl (.inl rfl) (by decide) (by decide)) rfl) (se_var rfl (.inl rfl) (by decide) (by decide)))))) (sss_cons (ss_ret se_bl)
    sss_nil) sss_nil)
    (sss_cons (ss_ret (b_all rfl rfl T.n_all (se_comp (own := [("sign", 3)]) rfl nd_is_text_up_to (si_any (se_var rfl (.inl rfl) (by decide) (by decide))) (blkOk_by rfl) (fun _ _ _ _ _ => (sg_name nd_is_text_up_to rfl (.inl rfl) (.inr rfl))) (fun _ _ _ _ _ => sts_nil) (fun _ _ _ _ _ => (se_cmp (op_inA (Room_u65 hr)) sIn rfl (se_var rfl (.inl rfl) (by decide) (by decide)) (se_sl (gl_str rfl T.c_SIGNS (by decide)) so_none (so_some (se_var rfl (.inr (.inl rfl)) (by decide) (by decide)))))) (by decide) (fun _ => rfl)) rfl))
    sss_nil))
theorem ok_is_text_up_to (T : Tx K mg) : FnOk P w K mg base CX0 1 T.a_is_text_up_to T.d_is_text_up_to ["many", "value", "length"] (spF K mg 3 f_is_text_up_to) := fn_ev T.F_is_text_up_to sc_is_text_up_to (dv_is_text_up_to T)
theorem bd_is_text (T : Tx K mg) : Binds K T.d_is_text ["many", "value"] [] := T.F_is_text.binds fun _ _ _ _ _ _ us hl => match us, hl with | [_, _], _ => rfl
theorem nd_is_text : N_is_text.Nodup := by decide +kernel
theorem sc_is_text : FnScope N_is_text ["many", "value"] (defScope s_is_text) := ⟨rfl, rfl, rfl, nd_is_text, rfl, by decide +kernel, by decide +kernel⟩
theorem dv_is_text (T : Tx K mg) (cdv : Value) (A : Around) (outer : List PySem.Env) (s : Shared) (H : Hp) (E : XK) (hr : Room 1 (A.deeper (envOfC "is_text" (defScope s_is_text) s.heap.objs.size T.a_is_text cdv))) :
    SSs (cxOf CX0 P w K mg base N_is_text "is_text" (defScope s_is_text) T.a_is_text cdv A outer s H E).nox (defBody s_is_text) b_is_text :=
    (sss_cons (ss_ret (se_call (ok_is_text_up_to T) runF_len (hr.mono (by omega)) rfl T.m_is_text_up_to T.F_is_text_up_to.kp (bd_is_text_up_to T) (sa_cons (se_var rfl (.inl rfl) (by decide) (by decide)) (sa_cons (se_var rfl (.inl rfl) (by decide) (by decide)) (sa_cons (gl_int rfl T.c_MOST_TEXT (by decide)) sa_nil rfl) rfl) rfl) (by decide) rfl rfl))
    sss_nil)
theorem ok_is_text (T : Tx K mg) : FnOk P w K mg base CX0 2 T.a_is_text T.d_is_text ["many", "value"] (spF K mg 2 f_is_text) := fn_ev T.F_is_text sc_is_text (dv_is_text T)
theorem bd_is_event (T : Tx K mg) : Binds K T.d_is_event ["many", "value"] [] := T.F_is_event.binds fun _ _ _ _ _ _ us hl => match us, hl with | [_, _], _ => rfl
theorem nd_is_event : N_is_event.Nodup := by decide +kernel
theorem sc_is_event : FnScope N_is_event ["many", "value"] (defScope s_is_event) := ⟨rfl, rfl, rfl, nd_is_event, rfl, by decide +kernel, by decide +kernel⟩
theorem dv_is_event (T : Tx K mg) (cdv : Value) (A : Around) (outer : List PySem.Env) (s : Shared) (H : Hp) (E : XK) (hr : Room 2 (A.deeper (envOfC "is_event" (defScope s_is_event) s.heap.objs.size T.a_is_event cdv))) :
    SSs (cxOf CX0 P w K mg base N_is_event "is_event" (defScope s_is_event) T.a_is_event cdv A outer s H E).nox (defBody s_is_event) b_is_event :=
    (sss_cons (ss_if (PW.pt (sw_or (st_not (st_truth (se_call (ok_is_tuple_up_to T) runF_len (hr.mono (by omega)) rfl T.m_is_tuple_up_to T.F_is_tuple_up_to.kp (bd_is_tuple_up_to T) (sa_cons (se_var rfl (.inl rfl) (by decide) (by decide)) (sa_cons se_int (sa_cons se_int sa_nil rfl) rfl) rfl) (by decide) rfl rfl) (fun _ => rfl))) (sw_or1 (st_not (st_truth (se_isi ⟨rfl, T.n_str, rfl, by decide, by decide⟩ rfl T.n_isinstance rfl (se_ix (Room_u1 hr) (fun _ _ => rfl) (se_var rfl (.inl rfl) (by decide) (by decide)) se_int) (by decide) (by decide) rfl) (fun _ => rfl)))))) (sss_cons (ss_ret se_bl)
    sss_nil) sss_nil)
    (sss_cons (ss_if (st_cmp (op_eqD (Room_u64 hr)) sEq (nomark _) (b_len rfl T.n_len (se_var rfl (.inl rfl) (by decide) (by decide)) rfl) se_int) (sss_cons (ss_ret (se_cmp (op_eqD (Room_u64 hr)) sEq (nomark _) (se_var rfl (.inl rfl) (by decide) (by decide)) (gl_tup1 rfl T.c_SHUT T.l_SHUT rfl rfl (by decide))))
    sss_nil) sss_nil)
    (sss_cons (ss_if (st_cmp (op_eqD (Room_u64 hr)) sEq (nomark _) (se_ix (Room_u1 hr) (fun _ _ => rfl) (se_var rfl (.inl rfl) (by decide) (by decide)) se_int) (gl_str rfl T.c_MARK (by decide))) (sss_cons (ss_ret (se_call (ok_is_between T) runF_len (hr.mono (by omega)) rfl T.m_is_between T.F_is_between.kp (bd_is_between T) (sa_cons (se_ix (Room_u1 hr) (fun _ _ => rfl) (se_var rfl (.inl rfl) (by decide) (by decide)) se_int) (sa_cons se_int (sa_cons (gl_int rfl T.c_MOST_MARK (by decide)) sa_nil rfl) rfl) rfl) (by decide) rfl rfl))
    sss_nil) sss_nil)
    (sss_cons (ss_if (st_cmp (op_eqD (Room_u64 hr)) sEq (nomark _) (se_ix (Room_u1 hr) (fun _ _ => rfl) (se_var rfl (.inl rfl) (by decide) (by decide)) se_int) (gl_str rfl T.c_OPEN (by decide))) (sss_cons (ss_ret (se_call (ok_is_between T) runF_len (hr.mono (by omega)) rfl T.m_is_between T.F_is_between.kp (bd_is_between T) (sa_cons (se_ix (Room_u1 hr) (fun _ _ => rfl) (se_var rfl (.inl rfl) (by decide) (by decide)) se_int) (sa_cons se_int (sa_cons (gl_int rfl T.c_MOST_KIND (by decide)) sa_nil rfl) rfl) rfl) (by decide) rfl rfl))
    sss_nil) sss_nil)
    (sss_cons (ss_ret (se_and (se_cmp (op_eqD (Room_u64 hr)) sEq (nomark _) (se_ix (Room_u1 hr) (fun _ _ => rfl) (se_var rfl (.inl rfl) (by decide) (by decide)) se_int) (gl_str rfl T.c_SAY (by decide))) (se_one (se_call (ok_is_sign T) runF_len (hr.mono (by omega)) rfl T.m_is_sign T.F_is_sign.kp (bd_is_sign T) (sa_cons (se_var rfl (.inl rfl) (by decide) (by decide)) (sa_cons (se_ix (Room_u1 hr) (fun _ _ => rfl) (se_var rfl (.inl rfl) (by decide) (by decide)) se_int) sa_nil rfl) rfl) (by decide) rfl rfl))))
    sss_nil)))))
theorem ok_is_event (T : Tx K mg) : FnOk P w K mg base CX0 3 T.a_is_event T.d_is_event ["many", "value"] (spF K mg 2 f_is_event) := fn_ev T.F_is_event sc_is_event (dv_is_event T)
theorem bd_is_entry (T : Tx K mg) : Binds K T.d_is_entry ["many", "states", "value"] [] := T.F_is_entry.binds fun _ _ _ _ _ _ us hl => match us, hl with | [_, _, _], _ => rfl
theorem nd_is_entry : N_is_entry.Nodup := by decide +kernel
theorem sc_is_entry : FnScope N_is_entry ["many", "states", "value"] (defScope s_is_entry) := ⟨rfl, rfl, rfl, nd_is_entry, rfl, by decide +kernel, by decide +kernel⟩
theorem dv_is_entry (T : Tx K mg) (cdv : Value) (A : Around) (outer : List PySem.Env) (s : Shared) (H : Hp) (E : XK) (hr : Room 3 (A.deeper (envOfC "is_entry" (defScope s_is_entry) s.heap.objs.size T.a_is_entry cdv))) :
    SSs (cxOf CX0 P w K mg base N_is_entry "is_entry" (defScope s_is_entry) T.a_is_entry cdv A outer s H E).nox (defBody s_is_entry) b_is_entry :=
    (sss_cons (ss_if (st_cmp op_isA sIs (nomark _) (se_var rfl (.inl rfl) (by decide) (by decide)) se_non) (sss_cons (ss_ret se_bl)
    sss_nil) sss_nil)
    (sss_cons (ss_if (PW.pt (sw_or (st_not (st_truth (se_call (ok_is_tuple T) runF_len (hr.mono (by omega)) rfl T.m_is_tuple T.F_is_tuple.kp (bd_is_tuple T) (sa_cons (se_var rfl (.inl rfl) (by decide) (by decide)) (sa_cons se_int sa_nil rfl) rfl) (by decide) rfl rfl) (fun _ => rfl))) (sw_or1 (st_not (st_truth (se_call (ok_is_between T) runF_len (hr.mono (by omega)) rfl T.m_is_between T.F_is_between.kp (bd_is_between T) (sa_cons (se_ix (Room_u1 hr) (fun _ _ => rfl) (se_var rfl (.inl rfl) (by decide) (by decide)) se_int) (sa_cons se_int (sa_cons (se_op op_sub sSub (se_var rfl (.inl rfl) (by decide) (by decide)) se_int) sa_nil rfl) rfl) rfl) (by decide) rfl rfl) (fun _ => rfl)))))) (sss_cons (ss_ret se_bl)
    sss_nil) sss_nil)
    (sss_cons (ss_ret (se_and (se_call (ok_is_tuple_up_to T) runF_len (hr.mono (by omega)) rfl T.m_is_tuple_up_to T.F_is_tuple_up_to.kp (bd_is_tuple_up_to T) (sa_cons (se_ix (Room_u1 hr) (fun _ _ => rfl) (se_var rfl (.inl rfl) (by decide) (by decide)) se_int) (sa_cons se_int (sa_cons (gl_int rfl T.c_MOST_EVENTS (by decide)) sa_nil rfl) rfl) rfl) (by decide) rfl rfl) (se_one (b_all rfl rfl T.n_all (se_comp (own := [("event", 3)]) rfl nd_is_entry (si_any (se_ix (Room_u1 hr) (fun _ _ => rfl) (se_var rfl (.inl rfl) (by decide) (by decide)) se_int)) (blkOk_by rfl) (fun _ _ _ _ _ => (sg_name nd_is_entry rfl (.inl rfl) (.inr rfl))) (fun _ _ _ _ _ => sts_nil) (fun _ _ _ _ _ => (se_call (ok_is_event T) runF_len (hr.mono (by omega)) rfl T.m_is_event T.F_is_event.kp (bd_is_event T) (sa_cons (se_var rfl (.inr (.inl rfl)) (by decide) (by decide)) (sa_cons (se_var rfl (.inl rfl) (by decide) (by decide)) sa_nil rfl) rfl) (by decide) rfl rfl)) (by decide) (fun _ => rfl)) rfl))))
    sss_nil)))
theorem ok_is_entry (T : Tx K mg) : FnOk P w K mg base CX0 4 T.a_is_entry T.d_is_entry ["many", "states", "value"] (spF K mg 3 f_is_entry) := fn_ev T.F_is_entry sc_is_entry (dv_is_entry T)
theorem bd_are_rows (T : Tx K mg) : Binds K T.d_are_rows ["many", "value"] [] := T.F_are_rows.binds fun _ _ _ _ _ _ us hl => match us, hl with | [_, _], _ => rfl
theorem nd_are_rows : N_are_rows.Nodup := by decide +kernel
theorem sc_are_rows : FnScope N_are_rows ["many", "value"] (defScope s_are_rows) := ⟨rfl, rfl, rfl, nd_are_rows, rfl, by decide +kernel, by decide +kernel⟩
theorem dv_are_rows (T : Tx K mg) (cdv : Value) (A : Around) (outer : List PySem.Env) (s : Shared) (H : Hp) (E : XK) (hr : Room 4 (A.deeper (envOfC "are_rows" (defScope s_are_rows) s.heap.objs.size T.a_are_rows cdv))) :
    SSs (cxOf CX0 P w K mg base N_are_rows "are_rows" (defScope s_are_rows) T.a_are_rows cdv A outer s H E).nox (defBody s_are_rows) b_are_rows :=
    (sss_cons (ss_if (PW.pt (sw_or (st_not (st_truth (se_call (ok_is_tuple_up_to T) runF_len (hr.mono (by omega)) rfl T.m_is_tuple_up_to T.F_is_tuple_up_to.kp (bd_is_tuple_up_to T) (sa_cons (se_var rfl (.inr (.inl rfl)) (by decide) (by decide)) (sa_cons se_int (sa_cons (gl_int rfl T.c_MOST_STATES (by decide)) sa_nil rfl) rfl) rfl) (by decide) rfl rfl) (fun _ => rfl))) (sw_or1 (st_not (st_truth (b_all rfl rfl T.n_all (se_comp (own := [("row", 2)]) rfl nd_are_rows (si_any (se_var rfl (.inr (.inl rfl)) (by decide) (by decide))) (blkOk_by rfl) (fun _ _ _ _ _ => (sg_name nd_are_rows rfl (.inl rfl) (.inr rfl))) (fun _ _ _ _ _ => sts_nil) (fun _ _ _ _ _ => (se_call (ok_is_tuple T) runF_len (hr.mono (by omega)) rfl T.m_is_tuple T.F_is_tuple.kp (bd_is_tuple T) (sa_cons (se_var rfl (.inl rfl) (by decide) (by decide)) (sa_cons (se_var rfl (.inr (.inl rfl)) (by decide) (by decide)) sa_nil rfl) rfl) (by decide) rfl rfl)) (by decide) (fun _ => rfl)) rfl) (fun _ => rfl)))))) (sss_cons (ss_ret se_bl)
    sss_nil) sss_nil)
    (sss_cons (ss_ret (b_all rfl rfl T.n_all (se_comp (own := [("row", 2)]) rfl nd_are_rows (si_any (se_var rfl (.inr (.inl rfl)) (by decide) (by decide))) (blkOk_by rfl) (fun _ _ _ _ _ => (sg_name nd_are_rows rfl (.inl rfl) (.inr rfl))) (fun _ _ _ _ _ => sts_nil) (fun _ _ _ _ _ => (b_all rfl rfl T.n_all (se_comp (own := [("entry", 3)]) rfl nd_are_rows (si_any (se_var rfl (.inl rfl) (by decide) (by decide))) (blkOk_by rfl) (fun _ _ _ _ _ => (sg_name nd_are_rows rfl (.inl rfl) (.inr rfl))) (fun _ _ _ _ _ => sts_nil) (fun _ _ _ _ _ => (se_call (ok_is_entry T) runF_len (hr.mono (by omega)) rfl T.m_is_entry T.F_is_entry.kp (bd_is_entry T) (sa_cons (se_var rfl (.inr (.inl rfl)) (by decide) (by decide)) (sa_cons (b_len rfl T.n_len (se_var rfl (.inr (.inl rfl)) (by decide) (by decide)) rfl) (sa_cons (se_var rfl (.inl rfl) (by decide) (by decide)) sa_nil rfl) rfl) rfl) (by decide) rfl rfl)) (by decide) (fun _ => rfl)) rfl)) (by decide) (fun _ => rfl)) rfl))
    sss_nil))
theorem ok_are_rows (T : Tx K mg) : FnOk P w K mg base CX0 5 T.a_are_rows T.d_are_rows ["many", "value"] (spF K mg 2 f_are_rows) := fn_ev T.F_are_rows sc_are_rows (dv_are_rows T)
theorem bd_states_in (T : Tx K mg) : Binds K T.d_states_in ["rows"] [] := T.F_states_in.binds fun _ _ _ _ _ _ us hl => match us, hl with | [_], _ => rfl
theorem nd_states_in : N_states_in.Nodup := by decide +kernel
theorem sc_states_in : FnScope N_states_in ["rows"] (defScope s_states_in) := ⟨rfl, rfl, rfl, nd_states_in, rfl, by decide +kernel, by decide +kernel⟩
theorem dv_states_in (T : Tx K mg) (cdv : Value) (A : Around) (outer : List PySem.Env) (s : Shared) (H : Hp) (E : XK) (hr : Room 0 (A.deeper (envOfC "states_in" (defScope s_states_in) s.heap.objs.size T.a_states_in cdv))) :
    SSs (cxOf CX0 P w K mg base N_states_in "states_in" (defScope s_states_in) T.a_states_in cdv A outer s H E).nox (defBody s_states_in) b_states_in :=
    (sss_cons (ss_par rfl nd_states_in rfl rfl (by decide) rfl rfl (sa_cons (se_lst (sa_cons se_int sa_nil rfl)) (sa_cons se_int sa_nil rfl) rfl) rfl rfl)
    (sss_cons (ss_while PassesOwn.never (st_cmp op_ltA sLt (nomark _) (se_var rfl (.inl rfl) (by decide) (by decide)) (b_len rfl T.n_len (se_var rfl (.inl rfl) (by decide) (by decide)) rfl)) (sss_cons (ss_for PassesOwn.never rfl (si_any (se_ix (Room_u1 hr) (fun _ _ => rfl) (se_var rfl (.inl rfl) (by decide) (by decide)) (se_ix (Room_u1 hr) (fun _ _ => rfl) (se_var rfl (.inl rfl) (by decide) (by decide)) (se_var rfl (.inl rfl) (by decide) (by decide))))) (sg_name nd_states_in rfl (.inl rfl) (.inr rfl)) (sss_cons (ss_if (PW.pt (sw_and (st_cmp op_isNotA sIsNot (nomark _) (se_var rfl (.inl rfl) (by decide) (by decide)) se_non) (sw_and1 (st_cmp (op_notInA (Room_u65 hr)) sNotIn rfl (se_ix (Room_u1 hr) (fun _ _ => rfl) (se_var rfl (.inl rfl) (by decide) (by decide)) se_int) (se_var rfl (.inl rfl) (by decide) (by decide)))))) (sss_cons (ss_expr (se_meth m_append (se_var rfl (.inl rfl) (by decide) (by decide)) (sa_cons (se_ix (Room_u1 hr) (fun _ _ => rfl) (se_var rfl (.inl rfl) (by decide) (by decide)) se_int) sa_nil rfl) rfl rfl rfl rfl rfl) rfl)
    sss_nil) sss_nil)
    sss_nil) (fun _ => rfl))
    (sss_cons (ss_add nd_states_in rfl (.inl rfl) se_int (.inr rfl))
    sss_nil)))
    (sss_cons (ss_ret (se_var rfl (.inl rfl) (by decide) (by decide)))
    sss_nil)))
theorem ok_states_in (T : Tx K mg) : FnOk P w K mg base CX0 1 T.a_states_in T.d_states_in ["rows"] (spF K mg 1 f_states_in) := fn_ev T.F_states_in sc_states_in (dv_states_in T)
theorem bd_mode_behind (T : Tx K mg) : Binds K T.d_mode_behind ["mode", "events"] [] := T.F_mode_behind.binds fun _ _ _ _ _ _ us hl => match us, hl with | [_, _], _ => rfl
theorem nd_mode_behind : N_mode_behind.Nodup := by decide +kernel
theorem sc_mode_behind : FnScope N_mode_behind ["mode", "events"] (defScope s_mode_behind) := ⟨rfl, rfl, rfl, nd_mode_behind, rfl, by decide +kernel, by decide +kernel⟩
theorem dv_mode_behind (T : Tx K mg) (cdv : Value) (A : Around) (outer : List PySem.Env) (s : Shared) (H : Hp) (E : XK) (hr : Room 0 (A.deeper (envOfC "mode_behind" (defScope s_mode_behind) s.heap.objs.size T.a_mode_behind cdv))) :
    SSs (cxOf CX0 P w K mg base N_mode_behind "mode_behind" (defScope s_mode_behind) T.a_mode_behind cdv A outer s H E).nox (defBody s_mode_behind) b_mode_behind :=
    (sss_cons (ss_for PassesOwn.never rfl (si_any (se_var rfl (.inl rfl) (by decide) (by decide))) (sg_name nd_mode_behind rfl (.inl rfl) (.inr rfl)) (sss_cons (ss_if (PW.pt (sw_or (st_cmp (op_eqD (Room_u64 hr)) sEq (nomark _) (se_ix (Room_u1 hr) (fun _ _ => rfl) (se_var rfl (.inl rfl) (by decide) (by decide)) se_int) (gl_str rfl T.c_MARK (by decide))) (sw_or1 (st_cmp (op_eqD (Room_u64 hr)) sEq (nomark _) (se_ix (Room_u1 hr) (fun _ _ => rfl) (se_var rfl (.inl rfl) (by decide) (by decide)) se_int) (gl_str rfl T.c_OPEN (by decide)))))) (sss_cons (ss_if (st_cmp op_isNotA sIsNot (nomark _) (se_var rfl (.inl rfl) (by decide) (by decide)) se_non) (sss_cons (ss_ret (se_tup sa_nil))
    sss_nil) sss_nil)
    (sss_cons (ss_set nd_mode_behind rfl (.inl rfl) (se_if (st_cmp (op_eqD (Room_u64 hr)) sEq (nomark _) (se_ix (Room_u1 hr) (fun _ _ => rfl) (se_var rfl (.inl rfl) (by decide) (by decide)) se_int) (gl_str rfl T.c_OPEN (by decide))) (se_ix (Room_u1 hr) (fun _ _ => rfl) (se_var rfl (.inl rfl) (by decide) (by decide)) se_int) se_non) rfl (.inr rfl))
    sss_nil)) (sss_cons (ss_if (st_cmp op_isA sIs (nomark _) (se_var rfl (.inl rfl) (by decide) (by decide)) se_non) (sss_cons (ss_ret (se_tup sa_nil))
    sss_nil) (sss_cons (ss_if (st_cmp (op_neD (Room_u64 hr)) sNe (nomark _) (se_ix (Room_u1 hr) (fun _ _ => rfl) (se_var rfl (.inl rfl) (by decide) (by decide)) se_int) (gl_str rfl T.c_SAY (by decide))) (sss_cons (ss_set nd_mode_behind rfl (.inl rfl) se_non rfl (.inr rfl))
    sss_nil) sss_nil)
    sss_nil))
    sss_nil))
    sss_nil) (fun _ => rfl))
    (sss_cons (ss_ret (se_tup (sa_cons (se_var rfl (.inl rfl) (by decide) (by decide)) sa_nil rfl)))
    sss_nil))
theorem ok_mode_behind (T : Tx K mg) : FnOk P w K mg base CX0 1 T.a_mode_behind T.d_mode_behind ["mode", "events"] (spF K mg 2 f_mode_behind) := fn_ev T.F_mode_behind sc_mode_behind (dv_mode_behind T)
theorem bd_modes_in (T : Tx K mg) : Binds K T.d_modes_in ["rows"] [] := T.F_modes_in.binds fun _ _ _ _ _ _ us hl => match us, hl with | [_], _ => rfl
theorem nd_modes_in : N_modes_in.Nodup := by decide +kernel
theorem sc_modes_in : FnScope N_modes_in ["rows"] (defScope s_modes_in) := ⟨rfl, rfl, rfl, nd_modes_in, rfl, by decide +kernel, by decide +kernel⟩
theorem dv_modes_in (T : Tx K mg) (cdv : Value) (A : Around) (outer : List PySem.Env) (s : Shared) (H : Hp) (E : XK) (hr : Room 1 (A.deeper (envOfC "modes_in" (defScope s_modes_in) s.heap.objs.size T.a_modes_in cdv))) :
    SSs (cxOf CX0 P w K mg base N_modes_in "modes_in" (defScope s_modes_in) T.a_modes_in cdv A outer s H E).nox (defBody s_modes_in) b_modes_in :=
    (sss_cons (ss_set nd_modes_in rfl (.inr rfl) (se_disp (pps_cons se_int se_non pps_nil) rfl rfl (by decide) (by decide)) rfl (.inl rfl))
    (sss_cons (ss_for PassesOwn.never rfl (si_any (se_call (ok_states_in T) runF_len (hr.mono (by omega)) rfl T.m_states_in T.F_states_in.kp (bd_states_in T) (sa_cons (se_var rfl (.inl rfl) (by decide) (by decide)) sa_nil rfl) (by decide) rfl rfl)) (sg_name nd_modes_in rfl (.inl rfl) (.inr rfl)) (sss_cons (ss_for PassesOwn.never rfl (si_enum rfl T.n_enumerate (se_ix (Room_u1 hr) (fun _ _ => rfl) (se_var rfl (.inl rfl) (by decide) (by decide)) (se_var rfl (.inl rfl) (by decide) (by decide))) rfl) (sg_tup rfl (sgs_cons (sg_name nd_modes_in rfl (.inl rfl) (.inr rfl)) (sgs_cons (sg_name nd_modes_in rfl (.inl rfl) (.inr rfl)) sgs_nil rfl) rfl) rfl rfl) (sss_cons (ss_if (st_cmp op_isA sIs (nomark _) (se_var rfl (.inl rfl) (by decide) (by decide)) se_non) (sss_cons ss_cont
    sss_nil) sss_nil)
    (sss_cons (ss_set nd_modes_in rfl (.inl rfl) (se_call (ok_mode_behind T) runF_len (hr.mono (by omega)) rfl T.m_mode_behind T.F_mode_behind.kp (bd_mode_behind T) (sa_cons (se_ix (Room_u1 hr) (fun _ _ => rfl) (se_var rfl (.inr (.inl rfl)) (by decide) (by decide)) (se_var rfl (.inl rfl) (by decide) (by decide))) (sa_cons (se_ix (Room_u1 hr) (fun _ _ => rfl) (se_var rfl (.inl rfl) (by decide) (by decide)) se_int) sa_nil rfl) rfl) (by decide) rfl rfl) rfl (.inr rfl))
    (sss_cons (ss_if (PW.pt (sw_or (st_cmp (op_eqD (Room_u64 hr)) sEq (nomark _) (se_var rfl (.inl rfl) (by decide) (by decide)) (se_tup sa_nil)) (sw_or1 (st_cmp (op_neD (Room_u64 hr)) sNe (nomark _) (se_setd (se_var rfl (.inr (.inl rfl)) (by decide) (by decide)) (se_ix (Room_u1 hr) (fun _ _ => rfl) (se_var rfl (.inl rfl) (by decide) (by decide)) se_int) (se_ix (Room_u1 hr) (fun _ _ => rfl) (se_var rfl (.inl rfl) (by decide) (by decide)) se_int) ⟨rfl, rfl, rfl, rfl⟩) (se_ix (Room_u1 hr) (fun _ _ => rfl) (se_var rfl (.inl rfl) (by decide) (by decide)) se_int))))) (sss_cons ss_never
    sss_nil) sss_nil)
    sss_nil))) (fun _ => rfl))
    sss_nil) (fun _ => rfl))
    (sss_cons (ss_ret (b_tuple rfl T.n_tuple (se_comp (own := [("state", 2)]) rfl nd_modes_in (si_range1 rfl T.n_range (b_len rfl T.n_len (se_var rfl (.inl rfl) (by decide) (by decide)) rfl) rfl) (blkOk_by rfl) (fun _ _ _ _ _ => (sg_name nd_modes_in rfl (.inl rfl) (.inr rfl))) (fun _ _ _ _ _ => sts_nil) (fun _ _ _ _ _ => (se_ix (Room_u1 hr) (fun _ _ => rfl) (se_var rfl (.inr (.inl rfl)) (by decide) (by decide)) (se_var rfl (.inl rfl) (by decide) (by decide)))) (by decide) (fun _ => rfl)) rfl))
    sss_nil)))
theorem ok_modes_in (T : Tx K mg) : FnOk P w K mg base CX0 2 T.a_modes_in T.d_modes_in ["rows"] (spF K mg 1 f_modes_in) := fn_ev T.F_modes_in sc_modes_in (dv_modes_in T)
theorem bd_are_ends (T : Tx K mg) : Binds K T.d_are_ends ["known", "value"] [] := T.F_are_ends.binds fun _ _ _ _ _ _ us hl => match us, hl with | [_, _], _ => rfl
theorem nd_are_ends : N_are_ends.Nodup := by decide +kernel
theorem sc_are_ends : FnScope N_are_ends ["known", "value"] (defScope s_are_ends) := ⟨rfl, rfl, rfl, nd_are_ends, rfl, by decide +kernel, by decide +kernel⟩
theorem dv_are_ends (T : Tx K mg) (cdv : Value) (A : Around) (outer : List PySem.Env) (s : Shared) (H : Hp) (E : XK) (hr : Room 3 (A.deeper (envOfC "are_ends" (defScope s_are_ends) s.heap.objs.size T.a_are_ends cdv))) :
    SSs (cxOf CX0 P w K mg base N_are_ends "are_ends" (defScope s_are_ends) T.a_are_ends cdv A outer s H E).nox (defBody s_are_ends) b_are_ends :=
    (sss_cons (ss_ret (se_and (se_call (ok_is_set T) runF_len (hr.mono (by omega)) rfl T.m_is_set T.F_is_set.kp (bd_is_set T) (sa_cons (se_var rfl (.inl rfl) (by decide) (by decide)) (sa_cons (b_len rfl T.n_len (se_var rfl (.inr (.inl rfl)) (by decide) (by decide)) rfl) sa_nil rfl) rfl) (by decide) rfl rfl) (se_and (se_cmp (op_neD (Room_u64 hr)) sNe (nomark _) (se_var rfl (.inl rfl) (by decide) (by decide)) (se_tup sa_nil)) (se_one (b_all rfl rfl T.n_all (se_comp (own := [("state", 2)]) rfl nd_are_ends (si_any (se_var rfl (.inl rfl) (by decide) (by decide))) (blkOk_by rfl) (fun _ _ _ _ _ => (sg_name nd_are_ends rfl (.inl rfl) (.inr rfl))) (fun _ _ _ _ _ => sts_nil) (fun _ _ _ _ _ => (se_cmp op_isA sIs (nomark _) (se_ix (Room_u1 hr) (fun _ _ => rfl) (se_var rfl (.inr (.inl rfl)) (by decide) (by decide)) (se_var rfl (.inl rfl) (by decide) (by decide))) se_non)) (by decide) (fun _ => rfl)) rfl)))))
    sss_nil)
theorem ok_are_ends (T : Tx K mg) : FnOk P w K mg base CX0 4 T.a_are_ends T.d_are_ends ["known", "value"] (spF K mg 2 f_are_ends) := fn_ev T.F_are_ends sc_are_ends (dv_are_ends T)
theorem bd_Reader___init__ (T : Tx K mg) : Binds K T.d_Reader___init__ ["self", "many", "rows", "ends"] [] := T.F_Reader___init__.binds fun _ _ _ _ _ _ us hl => match us, hl with | [_, _, _, _], _ => rfl
theorem kb_Reader___init___ends_rows_many (T : Tx K mg) : KBn K T.d_Reader___init__ ["self", "many", "rows", "ends"] 1 ["ends", "rows", "many"] (fun us ws => us ++ permL [2, 1, 0] ws) (fun us ws => us ++ permL [2, 1, 0] ws) := by
  obtain ⟨oc, od, kV, doc, pm, an, cdv, ct, osl, e, _⟩ := T.F_Reader___init__.ex
  rw [e]
  exact kbn_perm fun us ws h1 h2 => match us, ws, h1, h2 with | [_], [_, _, _], _, _ => rfl
theorem nd_Reader___init__ : N_Reader___init__.Nodup := by decide +kernel
theorem sc_Reader___init__ : FnScope N_Reader___init__ ["self", "many", "rows", "ends"] (defScope s_Reader___init__) := ⟨rfl, rfl, rfl, nd_Reader___init__, rfl, by decide +kernel, by decide +kernel⟩
theorem dv_Reader___init__ (T : Tx K mg) (cdv : Value) (A : Around) (outer : List PySem.Env) (s : Shared) (H : Hp) (E : XK) (hr : Room 5 (A.deeper (envOfC "Reader.__init__" (defScope s_Reader___init__) s.heap.objs.size T.a_Reader___init__ cdv))) :
    SSs (cxOf CX0 P w K mg base N_Reader___init__ "Reader.__init__" (defScope s_Reader___init__) T.a_Reader___init__ cdv A outer s H E).nox (defBody s_Reader___init__) b_Reader___init__ :=
    (sss_cons (ss_if (st_not (st_truth (se_call (ok_is_many T) runF_len (hr.mono (by omega)) rfl T.m_is_many T.F_is_many.kp (bd_is_many T) (sa_cons (se_var rfl (.inl rfl) (by decide) (by decide)) sa_nil rfl) (by decide) rfl rfl) (fun _ => rfl))) (sss_cons ss_never
    sss_nil) sss_nil)
    (sss_cons (ss_if (st_not (st_truth (se_call (ok_are_rows T) runF_len (hr.mono (by omega)) rfl T.m_are_rows T.F_are_rows.kp (bd_are_rows T) (sa_cons (se_var rfl (.inl rfl) (by decide) (by decide)) (sa_cons (se_var rfl (.inl rfl) (by decide) (by decide)) sa_nil rfl) rfl) (by decide) rfl rfl) (fun _ => rfl))) (sss_cons ss_never
    sss_nil) sss_nil)
    (sss_cons (ss_set nd_Reader___init__ rfl (.inr rfl) (se_call (ok_states_in T) runF_len (hr.mono (by omega)) rfl T.m_states_in T.F_states_in.kp (bd_states_in T) (sa_cons (se_var rfl (.inl rfl) (by decide) (by decide)) sa_nil rfl) (by decide) rfl rfl) rfl (.inl rfl))
    (sss_cons (ss_if (st_cmp op_ltA sLt (nomark _) (b_len rfl T.n_len (se_var rfl (.inr (.inl rfl)) (by decide) (by decide)) rfl) (b_len rfl T.n_len (se_var rfl (.inl rfl) (by decide) (by decide)) rfl)) (sss_cons ss_never
    sss_nil) sss_nil)
    (sss_cons (ss_set nd_Reader___init__ rfl (.inl rfl) (se_call (ok_modes_in T) runF_len (hr.mono (by omega)) rfl T.m_modes_in T.F_modes_in.kp (bd_modes_in T) (sa_cons (se_var rfl (.inl rfl) (by decide) (by decide)) sa_nil rfl) (by decide) rfl rfl) rfl (.inr rfl))
    (sss_cons (ss_if (st_not (st_truth (se_call (ok_are_ends T) runF_len (hr.mono (by omega)) rfl T.m_are_ends T.F_are_ends.kp (bd_are_ends T) (sa_cons (se_var rfl (.inl rfl) (by decide) (by decide)) (sa_cons (se_var rfl (.inl rfl) (by decide) (by decide)) sa_nil rfl) rfl) (by decide) rfl rfl) (fun _ => rfl))) (sss_cons ss_never
    sss_nil) sss_nil)
    (sss_cons (ss_fld (fo_many T rfl rfl) (se_var rfl (.inl rfl) (by decide) (by decide)) (se_var rfl (.inl rfl) (by decide) (by decide)) rfl)
    (sss_cons (ss_fld (fo_rows T rfl rfl) (se_var rfl (.inl rfl) (by decide) (by decide)) (se_var rfl (.inl rfl) (by decide) (by decide)) rfl)
    (sss_cons (ss_fld (fo_ends T rfl rfl) (se_var rfl (.inl rfl) (by decide) (by decide)) (se_var rfl (.inl rfl) (by decide) (by decide)) rfl)
    (sss_cons (ss_fld (fo__modes T rfl rfl) (se_var rfl (.inl rfl) (by decide) (by decide)) (se_var rfl (.inl rfl) (by decide) (by decide)) rfl)
    sss_nil))))))))))
theorem ok_Reader___init__ (T : Tx K mg) : FnOk P w K mg base CX0 6 T.a_Reader___init__ T.d_Reader___init__ ["self", "many", "rows", "ends"] (spF K mg 4 f_Reader___init__) := fn_ev T.F_Reader___init__ sc_Reader___init__ (dv_Reader___init__ T)
theorem bd_check_state (T : Tx K mg) : Binds K T.d_check_state ["reader", "state"] [] := T.F_check_state.binds fun _ _ _ _ _ _ us hl => match us, hl with | [_, _], _ => rfl
theorem nd_check_state : N_check_state.Nodup := by decide +kernel
theorem sc_check_state : FnScope N_check_state ["reader", "state"] (defScope s_check_state) := ⟨rfl, rfl, rfl, nd_check_state, rfl, by decide +kernel, by decide +kernel⟩
theorem dv_check_state (T : Tx K mg) (cdv : Value) (A : Around) (outer : List PySem.Env) (s : Shared) (H : Hp) (E : XK) (hr : Room 2 (A.deeper (envOfC "check_state" (defScope s_check_state) s.heap.objs.size T.a_check_state cdv))) :
    SSs (cxOf CX0 P w K mg base N_check_state "check_state" (defScope s_check_state) T.a_check_state cdv A outer s H E).nox (defBody s_check_state) b_check_state :=
    (sss_cons (ss_if (st_not (st_truth (se_call (ok_is_between T) runF_len (hr.mono (by omega)) rfl T.m_is_between T.F_is_between.kp (bd_is_between T) (sa_cons (se_var rfl (.inl rfl) (by decide) (by decide)) (sa_cons se_int (sa_cons (se_op op_sub sSub (b_len rfl T.n_len (se_fld (fo_rows T rfl rfl) (se_var rfl (.inl rfl) (by decide) (by decide)) rfl) rfl) se_int) sa_nil rfl) rfl) rfl) (by decide) rfl rfl) (fun _ => rfl))) (sss_cons ss_never
    sss_nil) sss_nil)
    sss_nil)
theorem ok_check_state (T : Tx K mg) : FnOk P w K mg base CX0 3 T.a_check_state T.d_check_state ["reader", "state"] (spF K mg 2 f_check_state) := fn_ev T.F_check_state sc_check_state (dv_check_state T)
theorem bd_check_text (T : Tx K mg) : Binds K T.d_check_text ["reader", "text"] [] := T.F_check_text.binds fun _ _ _ _ _ _ us hl => match us, hl with | [_, _], _ => rfl
theorem nd_check_text : N_check_text.Nodup := by decide +kernel
theorem sc_check_text : FnScope N_check_text ["reader", "text"] (defScope s_check_text) := ⟨rfl, rfl, rfl, nd_check_text, rfl, by decide +kernel, by decide +kernel⟩
theorem dv_check_text (T : Tx K mg) (cdv : Value) (A : Around) (outer : List PySem.Env) (s : Shared) (H : Hp) (E : XK) (hr : Room 2 (A.deeper (envOfC "check_text" (defScope s_check_text) s.heap.objs.size T.a_check_text cdv))) :
    SSs (cxOf CX0 P w K mg base N_check_text "check_text" (defScope s_check_text) T.a_check_text cdv A outer s H E).nox (defBody s_check_text) b_check_text :=
    (sss_cons (ss_if (st_not (st_truth (se_call (ok_is_text T) runF_len (hr.mono (by omega)) rfl T.m_is_text T.F_is_text.kp (bd_is_text T) (sa_cons (se_fld (fo_many T rfl rfl) (se_var rfl (.inl rfl) (by decide) (by decide)) rfl) (sa_cons (se_var rfl (.inl rfl) (by decide) (by decide)) sa_nil rfl) rfl) (by decide) rfl rfl) (fun _ => rfl))) (sss_cons ss_never
    sss_nil) sss_nil)
    sss_nil)
theorem ok_check_text (T : Tx K mg) : FnOk P w K mg base CX0 3 T.a_check_text T.d_check_text ["reader", "text"] (spF K mg 2 f_check_text) := fn_ev T.F_check_text sc_check_text (dv_check_text T)
theorem bd_modes (T : Tx K mg) : Binds K T.d_modes ["reader"] [] := T.F_modes.binds fun _ _ _ _ _ _ us hl => match us, hl with | [_], _ => rfl
theorem kb_modes_reader (T : Tx K mg) : KBinds K T.d_modes ["reader"] ["reader"] (gPerm 1 [0]) (gPerm 1 [0]) := by
  obtain ⟨oc, od, kV, doc, pm, an, cdv, ct, osl, e, _⟩ := T.F_modes.ex
  rw [e]
  exact kbinds_perm (ks := ["reader"]) (by decide) fun ws h2 => match ws, h2 with | [_], _ => rfl
theorem nd_modes : N_modes.Nodup := by decide +kernel
theorem sc_modes : FnScope N_modes ["reader"] (defScope s_modes) := ⟨rfl, rfl, rfl, nd_modes, rfl, by decide +kernel, by decide +kernel⟩
theorem dv_modes (T : Tx K mg) (cdv : Value) (A : Around) (outer : List PySem.Env) (s : Shared) (H : Hp) (E : XK) (hr : Room 0 (A.deeper (envOfC "modes" (defScope s_modes) s.heap.objs.size T.a_modes cdv))) :
    SSs (cxOf CX0 P w K mg base N_modes "modes" (defScope s_modes) T.a_modes cdv A outer s H E).nox (defBody s_modes) b_modes :=
    (sss_cons (ss_ret (se_fld (fo__modes T rfl rfl) (se_var rfl (.inl rfl) (by decide) (by decide)) rfl))
    sss_nil)
theorem ok_modes (T : Tx K mg) : FnOk P w K mg base CX0 1 T.a_modes T.d_modes ["reader"] (spF K mg 1 f_modes) := fn_ev T.F_modes sc_modes (dv_modes T)
theorem bd_entry_for (T : Tx K mg) : Binds K T.d_entry_for ["reader", "state", "sign"] [] := T.F_entry_for.binds fun _ _ _ _ _ _ us hl => match us, hl with | [_, _, _], _ => rfl
theorem nd_entry_for : N_entry_for.Nodup := by decide +kernel
theorem sc_entry_for : FnScope N_entry_for ["reader", "state", "sign"] (defScope s_entry_for) := ⟨rfl, rfl, rfl, nd_entry_for, rfl, by decide +kernel, by decide +kernel⟩
theorem dv_entry_for (T : Tx K mg) (cdv : Value) (A : Around) (outer : List PySem.Env) (s : Shared) (H : Hp) (E : XK) (hr : Room 0 (A.deeper (envOfC "entry_for" (defScope s_entry_for) s.heap.objs.size T.a_entry_for cdv))) :
    SSs (cxOf CX0 P w K mg base N_entry_for "entry_for" (defScope s_entry_for) T.a_entry_for cdv A outer s H E).nox (defBody s_entry_for) b_entry_for :=
    (sss_cons (ss_ret (se_ix (Room_u1 hr) (fun _ _ => rfl) (se_ix (Room_u1 hr) (fun _ _ => rfl) (se_fld (fo_rows T rfl rfl) (se_var rfl (.inl rfl) (by decide) (by decide)) rfl) (se_var rfl (.inl rfl) (by decide) (by decide))) (se_meth m_index (gl_str rfl T.c_SIGNS (by decide)) (sa_cons (se_var rfl (.inl rfl) (by decide) (by decide)) sa_nil rfl) rfl rfl rfl rfl rfl)))
    sss_nil)
theorem ok_entry_for (T : Tx K mg) : FnOk P w K mg base CX0 1 T.a_entry_for T.d_entry_for ["reader", "state", "sign"] (spF K mg 3 f_entry_for) := fn_ev T.F_entry_for sc_entry_for (dv_entry_for T)
theorem bd_read_on (T : Tx K mg) : Binds K T.d_read_on ["reader", "state", "text"] [] := T.F_read_on.binds fun _ _ _ _ _ _ us hl => match us, hl with | [_, _, _], _ => rfl
theorem nd_read_on : N_read_on.Nodup := by decide +kernel
theorem sc_read_on : FnScope N_read_on ["reader", "state", "text"] (defScope s_read_on) := ⟨rfl, rfl, rfl, nd_read_on, rfl, by decide +kernel, by decide +kernel⟩
theorem dv_read_on (T : Tx K mg) (cdv : Value) (A : Around) (outer : List PySem.Env) (s : Shared) (H : Hp) (E : XK) (hr : Room 1 (A.deeper (envOfC "read_on" (defScope s_read_on) s.heap.objs.size T.a_read_on cdv))) :
    SSs (cxOf CX0 P w K mg base N_read_on "read_on" (defScope s_read_on) T.a_read_on cdv A outer s H E).nox (defBody s_read_on) b_read_on :=
    (sss_cons (ss_set nd_read_on rfl (.inl rfl) (se_lst sa_nil) rfl (.inr rfl))
    (sss_cons (ss_for PassesOwn.never rfl (si_any (se_var rfl (.inl rfl) (by decide) (by decide))) (sg_name nd_read_on rfl (.inl rfl) (.inr rfl)) (sss_cons (ss_set nd_read_on rfl (.inl rfl) (se_call (ok_entry_for T) runF_len (hr.mono (by omega)) rfl T.m_entry_for T.F_entry_for.kp (bd_entry_for T) (sa_cons (se_var rfl (.inl rfl) (by decide) (by decide)) (sa_cons (se_var rfl (.inl rfl) (by decide) (by decide)) (sa_cons (se_var rfl (.inl rfl) (by decide) (by decide)) sa_nil rfl) rfl) rfl) (by decide) rfl rfl) rfl (.inr rfl))
    (sss_cons (ss_if (st_cmp op_isA sIs (nomark _) (se_var rfl (.inl rfl) (by decide) (by decide)) se_non) (sss_cons (ss_ret se_non)
    sss_nil) sss_nil)
    (sss_cons (ss_set nd_read_on rfl (.inl rfl) (se_ix (Room_u1 hr) (fun _ _ => rfl) (se_var rfl (.inl rfl) (by decide) (by decide)) se_int) rfl (.inr rfl))
    (sss_cons (ss_expr (se_meth m_extend (se_var rfl (.inl rfl) (by decide) (by decide)) (sa_cons (se_ix (Room_u1 hr) (fun _ _ => rfl) (se_var rfl (.inl rfl) (by decide) (by decide)) se_int) sa_nil rfl) rfl rfl rfl rfl rfl) rfl)
    sss_nil)))) (fun _ => rfl))
    (sss_cons (ss_ret (se_tup (sa_cons (se_var rfl (.inl rfl) (by decide) (by decide)) (sa_cons (b_tuple rfl T.n_tuple (se_var rfl (.inl rfl) (by decide) (by decide)) rfl) sa_nil rfl) rfl)))
    sss_nil)))
theorem ok_read_on (T : Tx K mg) : FnOk P w K mg base CX0 2 T.a_read_on T.d_read_on ["reader", "state", "text"] (spF K mg 3 f_read_on) := fn_ev T.F_read_on sc_read_on (dv_read_on T)
theorem bd_read_from (T : Tx K mg) : Binds K T.d_read_from ["reader", "state", "text"] [] := T.F_read_from.binds fun _ _ _ _ _ _ us hl => match us, hl with | [_, _, _], _ => rfl
theorem kb_read_from_text_state_reader (T : Tx K mg) : KBinds K T.d_read_from ["reader", "state", "text"] ["text", "state", "reader"] (gPerm 3 [2, 1, 0]) (gPerm 3 [2, 1, 0]) := by
  obtain ⟨oc, od, kV, doc, pm, an, cdv, ct, osl, e, _⟩ := T.F_read_from.ex
  rw [e]
  exact kbinds_perm (ks := ["text", "state", "reader"]) (by decide) fun ws h2 => match ws, h2 with | [_, _, _], _ => rfl
theorem nd_read_from : N_read_from.Nodup := by decide +kernel
theorem sc_read_from : FnScope N_read_from ["reader", "state", "text"] (defScope s_read_from) := ⟨rfl, rfl, rfl, nd_read_from, rfl, by decide +kernel, by decide +kernel⟩
theorem dv_read_from (T : Tx K mg) (cdv : Value) (A : Around) (outer : List PySem.Env) (s : Shared) (H : Hp) (E : XK) (hr : Room 3 (A.deeper (envOfC "read_from" (defScope s_read_from) s.heap.objs.size T.a_read_from cdv))) :
    SSs (cxOf CX0 P w K mg base N_read_from "read_from" (defScope s_read_from) T.a_read_from cdv A outer s H E).nox (defBody s_read_from) b_read_from :=
    (sss_cons (ss_expr (se_call (ok_check_state T) runF_len (hr.mono (by omega)) rfl T.m_check_state T.F_check_state.kp (bd_check_state T) (sa_cons (se_var rfl (.inl rfl) (by decide) (by decide)) (sa_cons (se_var rfl (.inl rfl) (by decide) (by decide)) sa_nil rfl) rfl) (by decide) rfl rfl) rfl)
    (sss_cons (ss_expr (se_call (ok_check_text T) runF_len (hr.mono (by omega)) rfl T.m_check_text T.F_check_text.kp (bd_check_text T) (sa_cons (se_var rfl (.inl rfl) (by decide) (by decide)) (sa_cons (se_var rfl (.inl rfl) (by decide) (by decide)) sa_nil rfl) rfl) (by decide) rfl rfl) rfl)
    (sss_cons (ss_ret (se_call (ok_read_on T) runF_len (hr.mono (by omega)) rfl T.m_read_on T.F_read_on.kp (bd_read_on T) (sa_cons (se_var rfl (.inl rfl) (by decide) (by decide)) (sa_cons (se_var rfl (.inl rfl) (by decide) (by decide)) (sa_cons (se_var rfl (.inl rfl) (by decide) (by decide)) sa_nil rfl) rfl) rfl) (by decide) rfl rfl))
    sss_nil)))
theorem ok_read_from (T : Tx K mg) : FnOk P w K mg base CX0 4 T.a_read_from T.d_read_from ["reader", "state", "text"] (spF K mg 3 f_read_from) := fn_ev T.F_read_from sc_read_from (dv_read_from T)
theorem bd_reading_of (T : Tx K mg) : Binds K T.d_reading_of ["reader", "text"] [] := T.F_reading_of.binds fun _ _ _ _ _ _ us hl => match us, hl with | [_, _], _ => rfl
theorem nd_reading_of : N_reading_of.Nodup := by decide +kernel
theorem sc_reading_of : FnScope N_reading_of ["reader", "text"] (defScope s_reading_of) := ⟨rfl, rfl, rfl, nd_reading_of, rfl, by decide +kernel, by decide +kernel⟩
theorem dv_reading_of (T : Tx K mg) (cdv : Value) (A : Around) (outer : List PySem.Env) (s : Shared) (H : Hp) (E : XK) (hr : Room 2 (A.deeper (envOfC "reading_of" (defScope s_reading_of) s.heap.objs.size T.a_reading_of cdv))) :
    SSs (cxOf CX0 P w K mg base N_reading_of "reading_of" (defScope s_reading_of) T.a_reading_of cdv A outer s H E).nox (defBody s_reading_of) b_reading_of :=
    (sss_cons (ss_set nd_reading_of rfl (.inl rfl) (se_call (ok_read_on T) runF_len (hr.mono (by omega)) rfl T.m_read_on T.F_read_on.kp (bd_read_on T) (sa_cons (se_var rfl (.inl rfl) (by decide) (by decide)) (sa_cons se_int (sa_cons (se_var rfl (.inl rfl) (by decide) (by decide)) sa_nil rfl) rfl) rfl) (by decide) rfl rfl) rfl (.inr rfl))
    (sss_cons (ss_ret (se_if (PW.pt (sw_and (st_cmp op_isNotA sIsNot (nomark _) (se_var rfl (.inl rfl) (by decide) (by decide)) se_non) (sw_and1 (st_cmp (op_inA (Room_u65 hr)) sIn rfl (se_ix (Room_u1 hr) (fun _ _ => rfl) (se_var rfl (.inl rfl) (by decide) (by decide)) se_int) (se_fld (fo_ends T rfl rfl) (se_var rfl (.inl rfl) (by decide) (by decide)) rfl))))) (se_ix (Room_u1 hr) (fun _ _ => rfl) (se_var rfl (.inl rfl) (by decide) (by decide)) se_int) se_non))
    sss_nil))
theorem ok_reading_of (T : Tx K mg) : FnOk P w K mg base CX0 3 T.a_reading_of T.d_reading_of ["reader", "text"] (spF K mg 2 f_reading_of) := fn_ev T.F_reading_of sc_reading_of (dv_reading_of T)
theorem bd_reads (T : Tx K mg) : Binds K T.d_reads ["reader", "text"] [] := T.F_reads.binds fun _ _ _ _ _ _ us hl => match us, hl with | [_, _], _ => rfl
theorem kb_reads_text_reader (T : Tx K mg) : KBinds K T.d_reads ["reader", "text"] ["text", "reader"] (gPerm 2 [1, 0]) (gPerm 2 [1, 0]) := by
  obtain ⟨oc, od, kV, doc, pm, an, cdv, ct, osl, e, _⟩ := T.F_reads.ex
  rw [e]
  exact kbinds_perm (ks := ["text", "reader"]) (by decide) fun ws h2 => match ws, h2 with | [_, _], _ => rfl
theorem nd_reads : N_reads.Nodup := by decide +kernel
theorem sc_reads : FnScope N_reads ["reader", "text"] (defScope s_reads) := ⟨rfl, rfl, rfl, nd_reads, rfl, by decide +kernel, by decide +kernel⟩
theorem dv_reads (T : Tx K mg) (cdv : Value) (A : Around) (outer : List PySem.Env) (s : Shared) (H : Hp) (E : XK) (hr : Room 3 (A.deeper (envOfC "reads" (defScope s_reads) s.heap.objs.size T.a_reads cdv))) :
    SSs (cxOf CX0 P w K mg base N_reads "reads" (defScope s_reads) T.a_reads cdv A outer s H E).nox (defBody s_reads) b_reads :=
    (sss_cons (ss_expr (se_call (ok_check_text T) runF_len (hr.mono (by omega)) rfl T.m_check_text T.F_check_text.kp (bd_check_text T) (sa_cons (se_var rfl (.inl rfl) (by decide) (by decide)) (sa_cons (se_var rfl (.inl rfl) (by decide) (by decide)) sa_nil rfl) rfl) (by decide) rfl rfl) rfl)
    (sss_cons (ss_ret (se_call (ok_reading_of T) runF_len (hr.mono (by omega)) rfl T.m_reading_of T.F_reading_of.kp (bd_reading_of T) (sa_cons (se_var rfl (.inl rfl) (by decide) (by decide)) (sa_cons (se_var rfl (.inl rfl) (by decide) (by decide)) sa_nil rfl) rfl) (by decide) rfl rfl))
    sss_nil))
theorem ok_reads (T : Tx K mg) : FnOk P w K mg base CX0 4 T.a_reads T.d_reads ["reader", "text"] (spF K mg 2 f_reads) := fn_ev T.F_reads sc_reads (dv_reads T)
theorem bd_items_in (T : Tx K mg) : Binds K T.d_items_in ["events"] [] := T.F_items_in.binds fun _ _ _ _ _ _ us hl => match us, hl with | [_], _ => rfl
theorem nd_items_in : N_items_in.Nodup := by decide +kernel
theorem sc_items_in : FnScope N_items_in ["events"] (defScope s_items_in) := ⟨rfl, rfl, rfl, nd_items_in, rfl, by decide +kernel, by decide +kernel⟩
theorem dv_items_in (T : Tx K mg) (cdv : Value) (A : Around) (outer : List PySem.Env) (s : Shared) (H : Hp) (E : XK) (hr : Room 0 (A.deeper (envOfC "items_in" (defScope s_items_in) s.heap.objs.size T.a_items_in cdv))) :
    SSs (cxOf CX0 P w K mg base N_items_in "items_in" (defScope s_items_in) T.a_items_in cdv A outer s H E).nox (defBody s_items_in) b_items_in :=
    (sss_cons (ss_par3 rfl nd_items_in rfl rfl rfl (by decide) (by decide) (by decide) rfl rfl rfl (sa_cons (se_lst sa_nil) (sa_cons se_non (sa_cons se_str sa_nil rfl) rfl) rfl) rfl rfl)
    (sss_cons (ss_for PassesOwn.never rfl (si_any (se_var rfl (.inl rfl) (by decide) (by decide))) (sg_name nd_items_in rfl (.inl rfl) (.inr rfl)) (sss_cons (ss_if (st_cmp (op_eqD (Room_u64 hr)) sEq (nomark _) (se_ix (Room_u1 hr) (fun _ _ => rfl) (se_var rfl (.inl rfl) (by decide) (by decide)) se_int) (gl_str rfl T.c_MARK (by decide))) (sss_cons (ss_expr (se_meth m_append (se_var rfl (.inl rfl) (by decide) (by decide)) (sa_cons (se_var rfl (.inl rfl) (by decide) (by decide)) sa_nil rfl) rfl rfl rfl rfl rfl) rfl)
    sss_nil) (sss_cons (ss_if (st_cmp (op_eqD (Room_u64 hr)) sEq (nomark _) (se_ix (Room_u1 hr) (fun _ _ => rfl) (se_var rfl (.inl rfl) (by decide) (by decide)) se_int) (gl_str rfl T.c_OPEN (by decide))) (sss_cons (ss_par rfl nd_items_in rfl rfl (by decide) rfl rfl (sa_cons (se_ix (Room_u1 hr) (fun _ _ => rfl) (se_var rfl (.inl rfl) (by decide) (by decide)) se_int) (sa_cons se_str sa_nil rfl) rfl) rfl rfl)
    sss_nil) (sss_cons (ss_if (st_cmp (op_eqD (Room_u64 hr)) sEq (nomark _) (se_ix (Room_u1 hr) (fun _ _ => rfl) (se_var rfl (.inl rfl) (by decide) (by decide)) se_int) (gl_str rfl T.c_SAY (by decide))) (sss_cons (ss_set nd_items_in rfl (.inl rfl) (se_op op_addA sAdd (se_var rfl (.inl rfl) (by decide) (by decide)) (se_ix (Room_u1 hr) (fun _ _ => rfl) (se_var rfl (.inl rfl) (by decide) (by decide)) se_int)) rfl (.inr rfl))
    sss_nil) (sss_cons (ss_expr (se_meth m_append (se_var rfl (.inl rfl) (by decide) (by decide)) (sa_cons (se_tup (sa_cons se_str (sa_cons (se_var rfl (.inl rfl) (by decide) (by decide)) (sa_cons (se_var rfl (.inl rfl) (by decide) (by decide)) sa_nil rfl) rfl) rfl)) sa_nil rfl) rfl rfl rfl rfl rfl) rfl)
    sss_nil))
    sss_nil))
    sss_nil))
    sss_nil) (fun _ => rfl))
    (sss_cons (ss_ret (b_tuple rfl T.n_tuple (se_var rfl (.inl rfl) (by decide) (by decide)) rfl))
    sss_nil)))
theorem ok_items_in (T : Tx K mg) : FnOk P w K mg base CX0 1 T.a_items_in T.d_items_in ["events"] (spF K mg 1 f_items_in) := fn_ev T.F_items_in sc_items_in (dv_items_in T)
theorem bd_items (T : Tx K mg) : Binds K T.d_items ["reader", "text"] [] := T.F_items.binds fun _ _ _ _ _ _ us hl => match us, hl with | [_, _], _ => rfl
theorem kb_items_text_reader (T : Tx K mg) : KBinds K T.d_items ["reader", "text"] ["text", "reader"] (gPerm 2 [1, 0]) (gPerm 2 [1, 0]) := by
  obtain ⟨oc, od, kV, doc, pm, an, cdv, ct, osl, e, _⟩ := T.F_items.ex
  rw [e]
  exact kbinds_perm (ks := ["text", "reader"]) (by decide) fun ws h2 => match ws, h2 with | [_, _], _ => rfl
theorem nd_items : N_items.Nodup := by decide +kernel
theorem sc_items : FnScope N_items ["reader", "text"] (defScope s_items) := ⟨rfl, rfl, rfl, nd_items, rfl, by decide +kernel, by decide +kernel⟩
theorem dv_items (T : Tx K mg) (cdv : Value) (A : Around) (outer : List PySem.Env) (s : Shared) (H : Hp) (E : XK) (hr : Room 3 (A.deeper (envOfC "items" (defScope s_items) s.heap.objs.size T.a_items cdv))) :
    SSs (cxOf CX0 P w K mg base N_items "items" (defScope s_items) T.a_items cdv A outer s H E).nox (defBody s_items) b_items :=
    (sss_cons (ss_expr (se_call (ok_check_text T) runF_len (hr.mono (by omega)) rfl T.m_check_text T.F_check_text.kp (bd_check_text T) (sa_cons (se_var rfl (.inl rfl) (by decide) (by decide)) (sa_cons (se_var rfl (.inl rfl) (by decide) (by decide)) sa_nil rfl) rfl) (by decide) rfl rfl) rfl)
    (sss_cons (ss_set nd_items rfl (.inl rfl) (se_call (ok_reading_of T) runF_len (hr.mono (by omega)) rfl T.m_reading_of T.F_reading_of.kp (bd_reading_of T) (sa_cons (se_var rfl (.inl rfl) (by decide) (by decide)) (sa_cons (se_var rfl (.inl rfl) (by decide) (by decide)) sa_nil rfl) rfl) (by decide) rfl rfl) rfl (.inr rfl))
    (sss_cons (ss_ret (se_if (st_cmp op_isA sIs (nomark _) (se_var rfl (.inl rfl) (by decide) (by decide)) se_non) se_non (se_call (ok_items_in T) runF_len (hr.mono (by omega)) rfl T.m_items_in T.F_items_in.kp (bd_items_in T) (sa_cons (se_var rfl (.inl rfl) (by decide) (by decide)) sa_nil rfl) (by decide) rfl rfl)))
    sss_nil)))
theorem ok_items (T : Tx K mg) : FnOk P w K mg base CX0 4 T.a_items T.d_items ["reader", "text"] (spF K mg 2 f_items) := fn_ev T.F_items sc_items (dv_items T)
theorem bd_stuck_at (T : Tx K mg) : Binds K T.d_stuck_at ["reader", "text"] [] := T.F_stuck_at.binds fun _ _ _ _ _ _ us hl => match us, hl with | [_, _], _ => rfl
theorem kb_stuck_at_text_reader (T : Tx K mg) : KBinds K T.d_stuck_at ["reader", "text"] ["text", "reader"] (gPerm 2 [1, 0]) (gPerm 2 [1, 0]) := by
  obtain ⟨oc, od, kV, doc, pm, an, cdv, ct, osl, e, _⟩ := T.F_stuck_at.ex
  rw [e]
  exact kbinds_perm (ks := ["text", "reader"]) (by decide) fun ws h2 => match ws, h2 with | [_, _], _ => rfl
theorem nd_stuck_at : N_stuck_at.Nodup := by decide +kernel
theorem sc_stuck_at : FnScope N_stuck_at ["reader", "text"] (defScope s_stuck_at) := ⟨rfl, rfl, rfl, nd_stuck_at, rfl, by decide +kernel, by decide +kernel⟩
theorem dv_stuck_at (T : Tx K mg) (cdv : Value) (A : Around) (outer : List PySem.Env) (s : Shared) (H : Hp) (E : XK) (hr : Room 3 (A.deeper (envOfC "stuck_at" (defScope s_stuck_at) s.heap.objs.size T.a_stuck_at cdv))) :
    SSs (cxOf CX0 P w K mg base N_stuck_at "stuck_at" (defScope s_stuck_at) T.a_stuck_at cdv A outer s H E).nox (defBody s_stuck_at) b_stuck_at :=
    (sss_cons (ss_expr (se_call (ok_check_text T) runF_len (hr.mono (by omega)) rfl T.m_check_text T.F_check_text.kp (bd_check_text T) (sa_cons (se_var rfl (.inl rfl) (by decide) (by decide)) (sa_cons (se_var rfl (.inl rfl) (by decide) (by decide)) sa_nil rfl) rfl) (by decide) rfl rfl) rfl)
    (sss_cons (ss_set nd_stuck_at rfl (.inl rfl) se_int rfl (.inr rfl))
    (sss_cons (ss_for PassesOwn.never rfl (si_enum rfl T.n_enumerate (se_var rfl (.inl rfl) (by decide) (by decide)) rfl) (sg_tup rfl (sgs_cons (sg_name nd_stuck_at rfl (.inl rfl) (.inr rfl)) (sgs_cons (sg_name nd_stuck_at rfl (.inl rfl) (.inr rfl)) sgs_nil rfl) rfl) rfl rfl) (sss_cons (ss_set nd_stuck_at rfl (.inl rfl) (se_call (ok_entry_for T) runF_len (hr.mono (by omega)) rfl T.m_entry_for T.F_entry_for.kp (bd_entry_for T) (sa_cons (se_var rfl (.inl rfl) (by decide) (by decide)) (sa_cons (se_var rfl (.inl rfl) (by decide) (by decide)) (sa_cons (se_var rfl (.inl rfl) (by decide) (by decide)) sa_nil rfl) rfl) rfl) (by decide) rfl rfl) rfl (.inr rfl))
    (sss_cons (ss_if (st_cmp op_isA sIs (nomark _) (se_var rfl (.inl rfl) (by decide) (by decide)) se_non) (sss_cons (ss_ret (se_var rfl (.inl rfl) (by decide) (by decide)))
    sss_nil) sss_nil)
    (sss_cons (ss_set nd_stuck_at rfl (.inl rfl) (se_ix (Room_u1 hr) (fun _ _ => rfl) (se_var rfl (.inl rfl) (by decide) (by decide)) se_int) rfl (.inr rfl))
    sss_nil))) (fun _ => rfl))
    (sss_cons (ss_ret (se_if (st_cmp (op_inA (Room_u65 hr)) sIn rfl (se_var rfl (.inl rfl) (by decide) (by decide)) (se_fld (fo_ends T rfl rfl) (se_var rfl (.inl rfl) (by decide) (by decide)) rfl)) se_non (b_len rfl T.n_len (se_var rfl (.inl rfl) (by decide) (by decide)) rfl)))
    sss_nil))))
theorem ok_stuck_at (T : Tx K mg) : FnOk P w K mg base CX0 4 T.a_stuck_at T.d_stuck_at ["reader", "text"] (spF K mg 2 f_stuck_at) := fn_ev T.F_stuck_at sc_stuck_at (dv_stuck_at T)
theorem bd__law_cell (T : Tx K mg) : Binds K T.d__law_cell ["script", "k"] [] := T.F__law_cell.binds fun _ _ _ _ _ _ us hl => match us, hl with | [_, _], _ => rfl
theorem nd__law_cell : N__law_cell.Nodup := by decide +kernel
theorem sc__law_cell : FnScope N__law_cell ["script", "k"] (defScope s__law_cell) := ⟨rfl, rfl, rfl, nd__law_cell, rfl, by decide +kernel, by decide +kernel⟩
theorem dv__law_cell (T : Tx K mg) (cdv : Value) (A : Around) (outer : List PySem.Env) (s : Shared) (H : Hp) (E : XK) (hr : Room 0 (A.deeper (envOfC "_law_cell" (defScope s__law_cell) s.heap.objs.size T.a__law_cell cdv))) :
    SSs (cxOf CX0 P w K mg base N__law_cell "_law_cell" (defScope s__law_cell) T.a__law_cell cdv A outer s H E).nox (defBody s__law_cell) b__law_cell :=
    (sss_cons (ss_ret (se_if (st_cmp op_ltA sLt (nomark _) (se_var rfl (.inl rfl) (by decide) (by decide)) (b_len rfl T.n_len (se_var rfl (.inl rfl) (by decide) (by decide)) rfl)) (se_ix (Room_u1 hr) (fun _ _ => rfl) (se_var rfl (.inl rfl) (by decide) (by decide)) (se_var rfl (.inl rfl) (by decide) (by decide))) (se_op op_addA sAdd (se_op op_mulA sMul se_int (se_var rfl (.inl rfl) (by decide) (by decide))) (se_op op_mod sMod (b_int rfl T.n_int (b_sum rfl rfl T.n_sum (se_sl (se_var rfl (.inl rfl) (by decide) (by decide)) so_none (so_some se_int)) rfl) rfl) se_int))))
    sss_nil)
theorem ok__law_cell (T : Tx K mg) : FnOk P w K mg base CX0 1 T.a__law_cell T.d__law_cell ["script", "k"] (spF K mg 2 f__law_cell) := fn_ev T.F__law_cell sc__law_cell (dv__law_cell T)
theorem bd__law_box (T : Tx K mg) : Binds K T.d__law_box ["great"] [] := T.F__law_box.binds fun _ _ _ _ _ _ us hl => match us, hl with | [_], _ => rfl
theorem nd__law_box : N__law_box.Nodup := by decide +kernel
theorem sc__law_box : FnScope N__law_box ["great"] (defScope s__law_box) := ⟨rfl, rfl, rfl, nd__law_box, rfl, by decide +kernel, by decide +kernel⟩
theorem dv__law_box (T : Tx K mg) (cdv : Value) (A : Around) (outer : List PySem.Env) (s : Shared) (H : Hp) (E : XK) (hr : Room 0 (A.deeper (envOfC "_law_box" (defScope s__law_box) s.heap.objs.size T.a__law_box cdv))) :
    SSs (cxOf CX0 P w K mg base N__law_box "_law_box" (defScope s__law_box) T.a__law_box cdv A outer s H E).nox (defBody s__law_box) b__law_box :=
    (sss_cons (ss_ret (se_lst (sa_cons (b_abs rfl T.n_abs (se_var rfl (.inl rfl) (by decide) (by decide)) rfl) (sa_cons (se_cmp op_ge sGe (nomark _) (b_abs rfl T.n_abs (se_var rfl (.inl rfl) (by decide) (by decide)) rfl) (se_op op_pow sPow se_int se_int)) (sa_cons (se_op op_mod sMod (b_int rfl T.n_int (b_abs rfl T.n_abs (se_var rfl (.inl rfl) (by decide) (by decide)) rfl) rfl) se_int) (sa_cons se_int sa_nil rfl) rfl) rfl) rfl)))
    sss_nil)
theorem ok__law_box (T : Tx K mg) : FnOk P w K mg base CX0 1 T.a__law_box T.d__law_box ["great"] (spF K mg 1 f__law_box) := fn_ev T.F__law_box sc__law_box (dv__law_box T)
theorem bd__law_take (T : Tx K mg) : Binds K T.d__law_take ["box", "many"] [] := T.F__law_take.binds fun _ _ _ _ _ _ us hl => match us, hl with | [_, _], _ => rfl
theorem nd__law_take : N__law_take.Nodup := by decide +kernel
theorem sc__law_take : FnScope N__law_take ["box", "many"] (defScope s__law_take) := ⟨rfl, rfl, rfl, nd__law_take, rfl, by decide +kernel, by decide +kernel⟩
theorem dv__law_take (T : Tx K mg) (cdv : Value) (A : Around) (outer : List PySem.Env) (s : Shared) (H : Hp) (E : XK) (hr : Room 0 (A.deeper (envOfC "_law_take" (defScope s__law_take) s.heap.objs.size T.a__law_take cdv))) :
    SSs (cxOf CX0 P w K mg base N__law_take "_law_take" (defScope s__law_take) T.a__law_take cdv A outer s H E).nox (defBody s__law_take) b__law_take :=
    (sss_cons (ss_if (PW.pt (sw_and (st_truth (se_ix (Room_u1 hr) (fun _ _ => rfl) (se_var rfl (.inl rfl) (by decide) (by decide)) se_int) (fun _ => rfl)) (sw_and1 (st_cmp op_gtA sGt (nomark _) (se_ix (Room_u1 hr) (fun _ _ => rfl) (se_var rfl (.inl rfl) (by decide) (by decide)) se_int) se_int)))) (sss_cons (ss_set nd__law_take rfl (.inl rfl) (se_op op_mod sMod (b_int rfl T.n_int (se_ix (Room_u1 hr) (fun _ _ => rfl) (se_var rfl (.inl rfl) (by decide) (by decide)) se_int) rfl) (se_var rfl (.inl rfl) (by decide) (by decide))) rfl (.inr rfl))
    (sss_cons (ss_asg (se_op op_fdiv sFdiv (se_ix (Room_u1 hr) (fun _ _ => rfl) (se_var rfl (.inl rfl) (by decide) (by decide)) se_int) (se_var rfl (.inl rfl) (by decide) (by decide))) (sg_sub (Room_u1 hr) (se_var rfl (.inl rfl) (by decide) (by decide)) se_int (fun _ => rfl)) rfl rfl rfl)
    (sss_cons (ss_ret (se_var rfl (.inl rfl) (by decide) (by decide)))
    sss_nil))) sss_nil)
    (sss_cons (ss_asg (se_op op_addA sAdd (se_ix (Room_u1 hr) (fun _ _ => rfl) (se_var rfl (.inl rfl) (by decide) (by decide)) se_int) se_int) (sg_sub (Room_u1 hr) (se_var rfl (.inl rfl) (by decide) (by decide)) se_int (fun _ => rfl)) rfl rfl rfl)
    (sss_cons (ss_set nd__law_take rfl (.inl rfl) (se_op op_mod sMod (b_int rfl T.n_int (se_op op_pow sPow (se_op op_addA sAdd (se_op op_addA sAdd (se_ix (Room_u1 hr) (fun _ _ => rfl) (se_var rfl (.inl rfl) (by decide) (by decide)) se_int) (se_op op_mulA sMul se_int (se_ix (Room_u1 hr) (fun _ _ => rfl) (se_var rfl (.inl rfl) (by decide) (by decide)) se_int))) se_int) se_int) rfl) se_int) rfl (.inr rfl))
    (sss_cons (ss_ret (se_op op_mod sMod (b_int rfl T.n_int (se_op op_fdiv sFdiv (se_op op_mod sMod (b_int rfl T.n_int (se_op op_pow sPow (se_op op_addA sAdd (se_op op_mulA sMul (se_var rfl (.inl rfl) (by decide) (by decide)) se_int) (se_op op_mulA sMul se_int (se_ix (Room_u1 hr) (fun _ _ => rfl) (se_var rfl (.inl rfl) (by decide) (by decide)) se_int))) se_int) rfl) se_int) se_int) rfl) (se_var rfl (.inl rfl) (by decide) (by decide))))
    sss_nil))))
theorem ok__law_take (T : Tx K mg) : FnOk P w K mg base CX0 1 T.a__law_take T.d__law_take ["box", "many"] (spF K mg 2 f__law_take) := fn_ev T.F__law_take sc__law_take (dv__law_take T)
theorem bd__law_pick (T : Tx K mg) : Binds K T.d__law_pick ["box", "menu"] [] := T.F__law_pick.binds fun _ _ _ _ _ _ us hl => match us, hl with | [_, _], _ => rfl
theorem nd__law_pick : N__law_pick.Nodup := by decide +kernel
theorem sc__law_pick : FnScope N__law_pick ["box", "menu"] (defScope s__law_pick) := ⟨rfl, rfl, rfl, nd__law_pick, rfl, by decide +kernel, by decide +kernel⟩
theorem dv__law_pick (T : Tx K mg) (cdv : Value) (A : Around) (outer : List PySem.Env) (s : Shared) (H : Hp) (E : XK) (hr : Room 1 (A.deeper (envOfC "_law_pick" (defScope s__law_pick) s.heap.objs.size T.a__law_pick cdv))) :
    SSs (cxOf CX0 P w K mg base N__law_pick "_law_pick" (defScope s__law_pick) T.a__law_pick cdv A outer s H E).nox (defBody s__law_pick) b__law_pick :=
    (sss_cons (ss_ret (se_ix (Room_u1 hr) (fun _ _ => rfl) (se_var rfl (.inl rfl) (by decide) (by decide)) (se_call (ok__law_take T) runF_len (hr.mono (by omega)) rfl T.m__law_take T.F__law_take.kp (bd__law_take T) (sa_cons (se_var rfl (.inl rfl) (by decide) (by decide)) (sa_cons (b_len rfl T.n_len (se_var rfl (.inl rfl) (by decide) (by decide)) rfl) sa_nil rfl) rfl) (by decide) rfl rfl)))
    sss_nil)
theorem ok__law_pick (T : Tx K mg) : FnOk P w K mg base CX0 2 T.a__law_pick T.d__law_pick ["box", "menu"] (spF K mg 2 f__law_pick) := fn_ev T.F__law_pick sc__law_pick (dv__law_pick T)
theorem bd__law_same (T : Tx K mg) : Binds K T.d__law_same ["told", "due"] [] := T.F__law_same.binds fun _ _ _ _ _ _ us hl => match us, hl with | [_, _], _ => rfl
theorem nd__law_same : N__law_same.Nodup := by decide +kernel
theorem sc__law_same : FnScope N__law_same ["told", "due"] (defScope s__law_same) := ⟨rfl, rfl, rfl, nd__law_same, rfl, by decide +kernel, by decide +kernel⟩
theorem dv__law_same (T : Tx K mg) (n : Nat) (r : List D → Sto → R XR) (hlr : ∀ ds S, ds.length ≠ 2 → r ds S = .no) (hrec : FnOk P w K mg base CX0 (0 + n) T.a__law_same T.d__law_same ["told", "due"] (spF K mg 2 r)) (cdv : Value) (A : Around) (outer : List PySem.Env) (s : Shared) (H : Hp) (E : XK) (hr : Room (0 + n) (A.deeper (envOfC "_law_same" (defScope s__law_same) s.heap.objs.size T.a__law_same cdv))) :
    SSs (cxOf CX0 P w K mg base N__law_same "_law_same" (defScope s__law_same) T.a__law_same cdv A outer s H E).nox (defBody s__law_same) (b__law_same r) :=
    (sss_cons (ss_if (PW.pt (sw_or (st_cmp op_isA sIs (nomark _) (se_var rfl (.inr (.inl rfl)) (by decide) (by decide)) se_non) (sw_or1 (st_truth (se_isi ⟨rfl, T.n_bool, rfl, by decide, by decide⟩ rfl T.n_isinstance rfl (se_var rfl (.inr (.inl rfl)) (by decide) (by decide)) (by decide) (by decide) rfl) (fun _ => rfl))))) (sss_cons (ss_ret (se_if (st_cmp op_isA sIs (nomark _) (se_var rfl (.inr (.inl rfl)) (by decide) (by decide)) se_non) (se_cmp op_isA sIs (nomark _) (se_var rfl (.inr (.inl rfl)) (by decide) (by decide)) se_non) (se_and (se_isi ⟨rfl, T.n_bool, rfl, by decide, by decide⟩ rfl T.n_isinstance rfl (se_var rfl (.inr (.inl rfl)) (by decide) (by decide)) (by decide) (by decide) rfl) (se_one (se_cmp (op_eqD (Room_u64 hr)) sEq (nomark _) (se_cmp op_isA sIs (nomark _) (se_var rfl (.inr (.inl rfl)) (by decide) (by decide)) se_bl) (se_cmp op_isA sIs (nomark _) (se_var rfl (.inr (.inl rfl)) (by decide) (by decide)) se_bl))))))
    sss_nil) sss_nil)
    (sss_cons (ss_if (st_truth (se_isi ⟨rfl, T.n_int, rfl, by decide, by decide⟩ rfl T.n_isinstance rfl (se_var rfl (.inr (.inl rfl)) (by decide) (by decide)) (by decide) (by decide) rfl) (fun _ => rfl)) (sss_cons (ss_ret (se_and (se_isi ⟨rfl, T.n_int, rfl, by decide, by decide⟩ rfl T.n_isinstance rfl (se_var rfl (.inr (.inl rfl)) (by decide) (by decide)) (by decide) (by decide) rfl) (se_and (se_not (se_isi ⟨rfl, T.n_bool, rfl, by decide, by decide⟩ rfl T.n_isinstance rfl (se_var rfl (.inr (.inl rfl)) (by decide) (by decide)) (by decide) (by decide) rfl)) (se_one (se_cmp (op_eqD (Room_u64 hr)) sEq (nomark _) (se_op op_sub sSub (b_int rfl T.n_int (se_var rfl (.inr (.inl rfl)) (by decide) (by decide)) rfl) (se_var rfl (.inr (.inl rfl)) (by decide) (by decide))) se_int)))))
    sss_nil) sss_nil)
    (sss_cons (ss_if (st_truth (se_isi ⟨rfl, T.n_str, rfl, by decide, by decide⟩ rfl T.n_isinstance rfl (se_var rfl (.inr (.inl rfl)) (by decide) (by decide)) (by decide) (by decide) rfl) (fun _ => rfl)) (sss_cons (ss_ret (se_and (se_isi ⟨rfl, T.n_str, rfl, by decide, by decide⟩ rfl T.n_isinstance rfl (se_var rfl (.inr (.inl rfl)) (by decide) (by decide)) (by decide) (by decide) rfl) (se_and (se_cmp (op_eqD (Room_u64 hr)) sEq (nomark _) (b_len rfl T.n_len (se_var rfl (.inr (.inl rfl)) (by decide) (by decide)) rfl) (b_len rfl T.n_len (se_var rfl (.inr (.inl rfl)) (by decide) (by decide)) rfl)) (se_one (se_cmp (op_eqD (Room_u64 hr)) sEq (nomark _) (se_comp (own := [("k", 2)]) rfl nd__law_same (si_range1 rfl T.n_range (b_len rfl T.n_len (se_var rfl (.inr (.inl rfl)) (by decide) (by decide)) rfl) rfl) (blkOk_by rfl) (fun _ _ _ _ _ => (sg_name nd__law_same rfl (.inl rfl) (.inr rfl))) (fun _ _ _ _ _ => (sts_one (st_cmp (op_neD (Room_u64 hr)) sNe (nomark _) (se_sl (se_var rfl (.inr (.inl rfl)) (by decide) (by decide)) (so_some (se_var rfl (.inl rfl) (by decide) (by decide))) (so_some (se_op op_addA sAdd (se_var rfl (.inl rfl) (by decide) (by decide)) se_int))) (se_ix (Room_u1 hr) (fun _ _ => rfl) (se_var rfl (.inr (.inl rfl)) (by decide) (by decide)) (se_var rfl (.inl rfl) (by decide) (by decide)))))) (fun _ _ _ _ _ => (se_var rfl (.inl rfl) (by decide) (by decide))) (by decide) (fun _ => rfl)) (se_lst sa_nil))))))
    sss_nil) sss_nil)
    (sss_cons (ss_if (PW.pt (sw_or (st_not (st_truth (se_isiT ⟨⟨_, _, rfl, ⟨rfl, T.n_list, rfl, by decide, by decide⟩⟩, ⟨⟨_, _, rfl, ⟨rfl, T.n_tuple, rfl, by decide, by decide⟩⟩, True.intro⟩⟩ (by decide) rfl T.n_isinstance rfl (se_var rfl (.inr (.inl rfl)) (by decide) (by decide)) (by decide) (by decide) rfl) (fun _ => rfl))) (sw_or (st_cmp (op_neD (Room_u64 hr)) sNe (nomark _) (se_isi ⟨rfl, T.n_list, rfl, by decide, by decide⟩ rfl T.n_isinstance rfl (se_var rfl (.inr (.inl rfl)) (by decide) (by decide)) (by decide) (by decide) rfl) (se_isi ⟨rfl, T.n_list, rfl, by decide, by decide⟩ rfl T.n_isinstance rfl (se_var rfl (.inr (.inl rfl)) (by decide) (by decide)) (by decide) (by decide) rfl)) (sw_or1 (st_cmp (op_neD (Room_u64 hr)) sNe (nomark _) (se_isi ⟨rfl, T.n_tuple, rfl, by decide, by decide⟩ rfl T.n_isinstance rfl (se_var rfl (.inr (.inl rfl)) (by decide) (by decide)) (by decide) (by decide) rfl) (se_isi ⟨rfl, T.n_tuple, rfl, by decide, by decide⟩ rfl T.n_isinstance rfl (se_var rfl (.inr (.inl rfl)) (by decide) (by decide)) (by decide) (by decide) rfl)))))) (sss_cons (ss_ret se_bl)
    sss_nil) sss_nil)
    (sss_cons (ss_ret (se_and (se_cmp (op_eqD (Room_u64 hr)) sEq (nomark _) (b_len rfl T.n_len (se_var rfl (.inr (.inl rfl)) (by decide) (by decide)) rfl) (b_len rfl T.n_len (se_var rfl (.inr (.inl rfl)) (by decide) (by decide)) rfl)) (se_one (se_cmp (op_eqD (Room_u64 hr)) sEq (nomark _) (se_comp (own := [("k", 2)]) rfl nd__law_same (si_range1 rfl T.n_range (b_len rfl T.n_len (se_var rfl (.inr (.inl rfl)) (by decide) (by decide)) rfl) rfl) (blkOk_by rfl) (fun _ _ _ _ _ => (sg_name nd__law_same rfl (.inl rfl) (.inr rfl))) (fun _ _ _ _ _ => (sts_one (st_not (st_truth (se_call hrec hlr (hr.mono (by omega)) rfl T.m__law_same T.F__law_same.kp (bd__law_same T) (sa_cons (se_ix (Room_u1 hr) (fun _ _ => rfl) (se_var rfl (.inr (.inl rfl)) (by decide) (by decide)) (se_var rfl (.inl rfl) (by decide) (by decide))) (sa_cons (se_ix (Room_u1 hr) (fun _ _ => rfl) (se_var rfl (.inr (.inl rfl)) (by decide) (by decide)) (se_var rfl (.inl rfl) (by decide) (by decide))) sa_nil rfl) rfl) (by decide) rfl rfl) (fun _ => rfl))))) (fun _ _ _ _ _ => (se_var rfl (.inl rfl) (by decide) (by decide))) (by decide) (fun _ => rfl)) (se_lst sa_nil)))))
    sss_nil)))))
theorem ok__law_same (T : Tx K mg) : ∀ n : Nat, FnOk P w K mg base CX0 (0 + n) T.a__law_same T.d__law_same ["told", "due"] (spF K mg 2 (f__law_same n))
  | 0 => fnok_no rfl
  | n + 1 => fn_ev T.F__law_same sc__law_same (dv__law_same T n (f__law_same n) (len__law_same n) (ok__law_same T n))
theorem bd__law_events (T : Tx K mg) : Binds K T.d__law_events ["box", "many", "one", "other"] [] := T.F__law_events.binds fun _ _ _ _ _ _ us hl => match us, hl with | [_, _, _, _], _ => rfl
theorem nd__law_events : N__law_events.Nodup := by decide +kernel
theorem sc__law_events : FnScope N__law_events ["box", "many", "one", "other"] (defScope s__law_events) := ⟨rfl, rfl, rfl, nd__law_events, rfl, by decide +kernel, by decide +kernel⟩
theorem dv__law_events (T : Tx K mg) (cdv : Value) (A : Around) (outer : List PySem.Env) (s : Shared) (H : Hp) (E : XK) (hr : Room 2 (A.deeper (envOfC "_law_events" (defScope s__law_events) s.heap.objs.size T.a__law_events cdv))) :
    SSs (cxOf CX0 P w K mg base N__law_events "_law_events" (defScope s__law_events) T.a__law_events cdv A outer s H E).nox (defBody s__law_events) b__law_events :=
    (sss_cons (ss_par rfl nd__law_events rfl rfl (by decide) rfl rfl (sa_cons (se_tup (sa_cons se_str (sa_cons (se_ix (Room_u1 hr) (fun _ _ => rfl) se_str (se_call (ok__law_take T) runF_len (hr.mono (by omega)) rfl T.m__law_take T.F__law_take.kp (bd__law_take T) (sa_cons (se_var rfl (.inl rfl) (by decide) (by decide)) (sa_cons (se_var rfl (.inl rfl) (by decide) (by decide)) sa_nil rfl) rfl) (by decide) rfl rfl)) sa_nil rfl) rfl)) (sa_cons (se_tup (sa_cons se_str (sa_cons (se_ix (Room_u1 hr) (fun _ _ => rfl) se_str (se_call (ok__law_take T) runF_len (hr.mono (by omega)) rfl T.m__law_take T.F__law_take.kp (bd__law_take T) (sa_cons (se_var rfl (.inl rfl) (by decide) (by decide)) (sa_cons (se_var rfl (.inl rfl) (by decide) (by decide)) sa_nil rfl) rfl) (by decide) rfl rfl)) sa_nil rfl) rfl)) sa_nil rfl) rfl) rfl rfl)
    (sss_cons (ss_par rfl nd__law_events rfl rfl (by decide) rfl rfl (sa_cons (se_tup (sa_cons se_str (sa_cons (se_call (ok__law_take T) runF_len (hr.mono (by omega)) rfl T.m__law_take T.F__law_take.kp (bd__law_take T) (sa_cons (se_var rfl (.inl rfl) (by decide) (by decide)) (sa_cons se_int sa_nil rfl) rfl) (by decide) rfl rfl) sa_nil rfl) rfl)) (sa_cons (se_tup (sa_cons se_str (sa_cons (se_call (ok__law_take T) runF_len (hr.mono (by omega)) rfl T.m__law_take T.F__law_take.kp (bd__law_take T) (sa_cons (se_var rfl (.inl rfl) (by decide) (by decide)) (sa_cons se_int sa_nil rfl) rfl) (by decide) rfl rfl) sa_nil rfl) rfl)) sa_nil rfl) rfl) rfl rfl)
    (sss_cons (ss_if (PW.pt (sw_and (st_cmp op_isA sIs (nomark _) (se_var rfl (.inl rfl) (by decide) (by decide)) se_non) (sw_and1 (st_cmp op_isA sIs (nomark _) (se_var rfl (.inl rfl) (by decide) (by decide)) se_non)))) (sss_cons (ss_ret (se_call (ok__law_pick T) runF_len (hr.mono (by omega)) rfl T.m__law_pick T.F__law_pick.kp (bd__law_pick T) (sa_cons (se_var rfl (.inl rfl) (by decide) (by decide)) (sa_cons (se_lst (sa_cons (se_tup sa_nil) (sa_cons (se_tup (sa_cons (se_var rfl (.inl rfl) (by decide) (by decide)) sa_nil rfl)) (sa_cons (se_tup (sa_cons (se_var rfl (.inl rfl) (by decide) (by decide)) (sa_cons (se_var rfl (.inl rfl) (by decide) (by decide)) sa_nil rfl) rfl)) (sa_cons (se_tup (sa_cons (se_var rfl (.inl rfl) (by decide) (by decide)) (sa_cons (se_var rfl (.inl rfl) (by decide) (by decide)) sa_nil rfl) rfl)) (sa_cons (se_tup (sa_cons (se_tup (sa_cons se_str (sa_cons (se_call (ok__law_take T) runF_len (hr.mono (by omega)) rfl T.m__law_take T.F__law_take.kp (bd__law_take T) (sa_cons (se_var rfl (.inl rfl) (by decide) (by decide)) (sa_cons se_int sa_nil rfl) rfl) (by decide) rfl rfl) sa_nil rfl) rfl)) (sa_cons (se_tup (sa_cons se_str sa_nil rfl)) sa_nil rfl) rfl)) sa_nil rfl) rfl) rfl) rfl) rfl)) sa_nil rfl) rfl) (by decide) rfl rfl))
    sss_nil) sss_nil)
    (sss_cons (ss_if (st_cmp op_isA sIs (nomark _) (se_var rfl (.inl rfl) (by decide) (by decide)) se_non) (sss_cons (ss_ret (se_call (ok__law_pick T) runF_len (hr.mono (by omega)) rfl T.m__law_pick T.F__law_pick.kp (bd__law_pick T) (sa_cons (se_var rfl (.inl rfl) (by decide) (by decide)) (sa_cons (se_lst (sa_cons (se_tup (sa_cons (se_tup (sa_cons se_str (sa_cons (se_var rfl (.inl rfl) (by decide) (by decide)) sa_nil rfl) rfl)) sa_nil rfl)) (sa_cons (se_tup (sa_cons (se_var rfl (.inl rfl) (by decide) (by decide)) (sa_cons (se_tup (sa_cons se_str (sa_cons (se_var rfl (.inl rfl) (by decide) (by decide)) sa_nil rfl) rfl)) sa_nil rfl) rfl)) (sa_cons (se_tup (sa_cons (se_tup (sa_cons se_str (sa_cons (se_var rfl (.inl rfl) (by decide) (by decide)) sa_nil rfl) rfl)) (sa_cons (se_var rfl (.inl rfl) (by decide) (by decide)) sa_nil rfl) rfl)) sa_nil rfl) rfl) rfl)) sa_nil rfl) rfl) (by decide) rfl rfl))
    sss_nil) sss_nil)
    (sss_cons (ss_if (st_cmp op_isA sIs (nomark _) (se_var rfl (.inl rfl) (by decide) (by decide)) se_non) (sss_cons (ss_ret (se_call (ok__law_pick T) runF_len (hr.mono (by omega)) rfl T.m__law_pick T.F__law_pick.kp (bd__law_pick T) (sa_cons (se_var rfl (.inl rfl) (by decide) (by decide)) (sa_cons (se_lst (sa_cons (se_tup (sa_cons (se_tup (sa_cons se_str sa_nil rfl)) sa_nil rfl)) (sa_cons (se_tup (sa_cons (se_var rfl (.inl rfl) (by decide) (by decide)) (sa_cons (se_tup (sa_cons se_str sa_nil rfl)) sa_nil rfl) rfl)) (sa_cons (se_tup (sa_cons (se_tup (sa_cons se_str sa_nil rfl)) (sa_cons (se_var rfl (.inl rfl) (by decide) (by decide)) sa_nil rfl) rfl)) sa_nil rfl) rfl) rfl)) sa_nil rfl) rfl) (by decide) rfl rfl))
    sss_nil) sss_nil)
    (sss_cons (ss_if (st_cmp (op_neD (Room_u64 hr)) sNe (nomark _) (se_var rfl (.inl rfl) (by decide) (by decide)) (se_var rfl (.inl rfl) (by decide) (by decide))) (sss_cons (ss_ret (se_tup (sa_cons (se_tup (sa_cons se_str sa_nil rfl)) (sa_cons (se_tup (sa_cons se_str (sa_cons (se_var rfl (.inl rfl) (by decide) (by decide)) sa_nil rfl) rfl)) sa_nil rfl) rfl)))
    sss_nil) sss_nil)
    (sss_cons (ss_ret (se_call (ok__law_pick T) runF_len (hr.mono (by omega)) rfl T.m__law_pick T.F__law_pick.kp (bd__law_pick T) (sa_cons (se_var rfl (.inl rfl) (by decide) (by decide)) (sa_cons (se_lst (sa_cons (se_tup sa_nil) (sa_cons (se_tup (sa_cons (se_var rfl (.inl rfl) (by decide) (by decide)) sa_nil rfl)) (sa_cons (se_tup (sa_cons (se_var rfl (.inl rfl) (by decide) (by decide)) (sa_cons (se_var rfl (.inl rfl) (by decide) (by decide)) sa_nil rfl) rfl)) (sa_cons (se_tup (sa_cons (se_var rfl (.inl rfl) (by decide) (by decide)) (sa_cons (se_var rfl (.inl rfl) (by decide) (by decide)) sa_nil rfl) rfl)) (sa_cons (se_tup (sa_cons (se_tup (sa_cons se_str sa_nil rfl)) (sa_cons (se_tup (sa_cons se_str (sa_cons (se_var rfl (.inl rfl) (by decide) (by decide)) sa_nil rfl) rfl)) sa_nil rfl) rfl)) sa_nil rfl) rfl) rfl) rfl) rfl)) sa_nil rfl) rfl) (by decide) rfl rfl))
    sss_nil)))))))
theorem ok__law_events (T : Tx K mg) : FnOk P w K mg base CX0 3 T.a__law_events T.d__law_events ["box", "many", "one", "other"] (spF K mg 4 f__law_events) := fn_ev T.F__law_events sc__law_events (dv__law_events T)
theorem bd__law_planned (T : Tx K mg) : Binds K T.d__law_planned ["box", "many", "count"] [] := T.F__law_planned.binds fun _ _ _ _ _ _ us hl => match us, hl with | [_, _, _], _ => rfl
theorem nd__law_planned : N__law_planned.Nodup := by decide +kernel
theorem sc__law_planned : FnScope N__law_planned ["box", "many", "count"] (defScope s__law_planned) := ⟨rfl, rfl, rfl, nd__law_planned, rfl, by decide +kernel, by decide +kernel⟩
theorem dv__law_planned (T : Tx K mg) (cdv : Value) (A : Around) (outer : List PySem.Env) (s : Shared) (H : Hp) (E : XK) (hr : Room 3 (A.deeper (envOfC "_law_planned" (defScope s__law_planned) s.heap.objs.size T.a__law_planned cdv))) :
    SSs (cxOf CX0 P w K mg base N__law_planned "_law_planned" (defScope s__law_planned) T.a__law_planned cdv A outer s H E).nox (defBody s__law_planned) b__law_planned :=
    (sss_cons (ss_asg (se_tup (sa_cons (se_lst (sa_cons se_non sa_nil rfl)) (sa_cons se_dctNew (sa_cons (se_lst (sa_cons se_str sa_nil rfl)) sa_nil rfl) rfl) rfl)) (sg_tup rfl (sgs_cons (sg_name nd__law_planned rfl (.inl rfl) (.inr rfl)) (sgs_cons (sg_name nd__law_planned rfl (.inr rfl) (.inl rfl)) (sgs_cons (sg_name nd__law_planned rfl (.inl rfl) (.inr rfl)) sgs_nil rfl) rfl) rfl) rfl rfl) rfl rfl rfl)
    (sss_cons (ss_for PassesOwn.never rfl (si_range2 rfl T.n_range se_int (se_var rfl (.inl rfl) (by decide) (by decide)) rfl rfl) (sg_name nd__law_planned rfl (.inl rfl) (.inr rfl)) (sss_cons (ss_set nd__law_planned rfl (.inl rfl) (se_lst sa_nil) rfl (.inr rfl))
    (sss_cons (ss_for PassesOwn.never rfl (si_range1 rfl T.n_range (se_var rfl (.inl rfl) (by decide) (by decide)) rfl) (sg_name nd__law_planned rfl (.inr rfl) (.inl rfl)) (sss_cons (ss_expr (se_meth m_extend (se_var rfl (.inl rfl) (by decide) (by decide)) (sa_cons (se_comp (own := [("s", 9)]) rfl nd__law_planned (si_range1 rfl T.n_range (se_var rfl (.inr (.inl rfl)) (by decide) (by decide)) rfl) (blkOk_by rfl) (fun _ _ _ _ _ => (sg_name nd__law_planned rfl (.inl rfl) (.inr rfl))) (fun _ _ _ _ _ => (sts_one (PW.pt (sw_and (st_cmp (op_notInA (Room_u65 hr)) sNotIn rfl (se_tup (sa_cons (se_var rfl (.inr (.inl rfl)) (by decide) (by decide)) (sa_cons (se_var rfl (.inl rfl) (by decide) (by decide)) sa_nil rfl) rfl)) (se_var rfl (.inr (.inl rfl)) (by decide) (by decide))) (sw_and1 (st_cmp op_ltA sLt (nomark _) (b_len rfl T.n_len (se_comp (own := [("t", 12)]) rfl nd__law_planned (si_range1 rfl T.n_range (se_var rfl (.inr (.inl rfl)) (by decide) (by decide)) rfl) (blkOk_by rfl) (fun _ _ _ _ _ => (sg_name nd__law_planned rfl (.inl rfl) (.inr rfl))) (fun _ _ _ _ _ => (sts_one (st_cmp (op_inA (Room_u65 hr)) sIn rfl (se_tup (sa_cons (se_var rfl (.inr (.inl rfl)) (by decide) (by decide)) (sa_cons (se_var rfl (.inl rfl) (by decide) (by decide)) sa_nil rfl) rfl)) (se_var rfl (.inr (.inl rfl)) (by decide) (by decide))))) (fun _ _ _ _ _ => (se_var rfl (.inl rfl) (by decide) (by decide))) (by decide) (fun _ => rfl)) rfl) (se_op op_sub sSub (se_var rfl (.inr (.inl rfl)) (by decide) (by decide)) se_int))))))) (fun _ _ _ _ _ => (se_tup (sa_cons (se_var rfl (.inr (.inl rfl)) (by decide) (by decide)) (sa_cons (se_var rfl (.inl rfl) (by decide) (by decide)) sa_nil rfl) rfl))) (by decide) (fun _ => rfl)) sa_nil rfl) rfl rfl rfl rfl rfl) rfl)
    sss_nil) (fun _ => rfl))
    (sss_cons (ss_asg (se_ix (Room_u1 hr) (fun _ _ => rfl) (se_var rfl (.inl rfl) (by decide) (by decide)) (se_op op_sub sSub (se_neg se_int) (se_call (ok__law_take T) runF_len (hr.mono (by omega)) rfl T.m__law_take T.F__law_take.kp (bd__law_take T) (sa_cons (se_var rfl (.inr (.inl rfl)) (by decide) (by decide)) (sa_cons (b_min rfl rfl T.n_min (b_len rfl T.n_len (se_var rfl (.inl rfl) (by decide) (by decide)) rfl) (se_op op_mulA sMul se_int (se_var rfl (.inr (.inl rfl)) (by decide) (by decide))) rfl rfl) sa_nil rfl) rfl) (by decide) rfl rfl))) (sg_tup rfl (sgs_cons (sg_name nd__law_planned rfl (.inr rfl) (.inl rfl)) (sgs_cons (sg_name nd__law_planned rfl (.inl rfl) (.inr rfl)) sgs_nil rfl) rfl) rfl rfl) rfl rfl rfl)
    (sss_cons (ss_expr (se_meth m_append (se_var rfl (.inl rfl) (by decide) (by decide)) (sa_cons (se_if (PW.pt (sw_and (st_cmp op_ltA sLt (nomark _) (se_var rfl (.inl rfl) (by decide) (by decide)) se_int) (sw_and1 (st_cmp op_gtA sGt (nomark _) (se_call (ok__law_take T) runF_len (hr.mono (by omega)) rfl T.m__law_take T.F__law_take.kp (bd__law_take T) (sa_cons (se_var rfl (.inr (.inl rfl)) (by decide) (by decide)) (sa_cons se_int sa_nil rfl) rfl) (by decide) rfl rfl) se_int)))) (se_ix (Room_u1 hr) (fun _ _ => rfl) (se_lst (sa_cons se_int (sa_cons se_int (sa_cons se_int sa_nil rfl) rfl) rfl)) (se_op op_mod sMod (b_int rfl T.n_int (se_op op_sub sSub (se_var rfl (.inl rfl) (by decide) (by decide)) se_int) rfl) se_int)) (se_call (ok__law_pick T) runF_len (hr.mono (by omega)) rfl T.m__law_pick T.F__law_pick.kp (bd__law_pick T) (sa_cons (se_var rfl (.inr (.inl rfl)) (by decide) (by decide)) (sa_cons (se_lst (sa_cons se_non (sa_cons se_int (sa_cons se_int (sa_cons se_int sa_nil rfl) rfl) rfl) rfl)) sa_nil rfl) rfl) (by decide) rfl rfl)) sa_nil rfl) rfl rfl rfl rfl rfl) rfl)
    (sss_cons (ss_asg (se_tup (sa_cons (se_var rfl (.inl rfl) (by decide) (by decide)) (sa_cons (se_call (ok__law_events T) runF_len (hr.mono (by omega)) rfl T.m__law_events T.F__law_events.kp (bd__law_events T) (sa_cons (se_var rfl (.inr (.inl rfl)) (by decide) (by decide)) (sa_cons (se_var rfl (.inr (.inl rfl)) (by decide) (by decide)) (sa_cons (se_ix (Room_u1 hr) (fun _ _ => rfl) (se_var rfl (.inl rfl) (by decide) (by decide)) (se_var rfl (.inr (.inl rfl)) (by decide) (by decide))) (sa_cons (se_ix (Room_u1 hr) (fun _ _ => rfl) (se_var rfl (.inl rfl) (by decide) (by decide)) (se_var rfl (.inl rfl) (by decide) (by decide))) sa_nil rfl) rfl) rfl) rfl) (by decide) rfl rfl) sa_nil rfl) rfl)) (sg_sub (Room_u1 hr) (se_var rfl (.inr (.inl rfl)) (by decide) (by decide)) (se_tup (sa_cons (se_var rfl (.inr (.inl rfl)) (by decide) (by decide)) (sa_cons (se_var rfl (.inl rfl) (by decide) (by decide)) sa_nil rfl) rfl)) (fun _ => rfl)) rfl rfl rfl)
    (sss_cons (ss_expr (se_meth m_append (se_var rfl (.inl rfl) (by decide) (by decide)) (sa_cons (se_op op_addA sAdd (se_ix (Room_u1 hr) (fun _ _ => rfl) (se_var rfl (.inl rfl) (by decide) (by decide)) (se_var rfl (.inr (.inl rfl)) (by decide) (by decide))) (se_ix (Room_u1 hr) (fun _ _ => rfl) se_str (se_var rfl (.inl rfl) (by decide) (by decide)))) sa_nil rfl) rfl rfl rfl rfl rfl) rfl)
    sss_nil)))))) (fun _ => rfl))
    (sss_cons (ss_for PassesOwn.never rfl (si_range1 rfl T.n_range (se_var rfl (.inl rfl) (by decide) (by decide)) rfl) (sg_name nd__law_planned rfl (.inr rfl) (.inl rfl)) (sss_cons (ss_setLc' (own := [("s", 9)]) rfl nd__law_planned (si_range1 rfl T.n_range (se_var rfl (.inr (.inl rfl)) (by decide) (by decide)) rfl) (blkOk_by rfl) (fun _ _ _ _ _ => (sg_name nd__law_planned rfl (.inl rfl) (.inr rfl))) (fun _ _ _ _ _ => (sts_one (st_cmp (op_notInA (Room_u65 hr)) sNotIn rfl (se_tup (sa_cons (se_var rfl (.inr (.inl rfl)) (by decide) (by decide)) (sa_cons (se_var rfl (.inl rfl) (by decide) (by decide)) sa_nil rfl) rfl)) (se_var rfl (.inr (.inl rfl)) (by decide) (by decide))))) (fun _ _ _ _ _ => (se_var rfl (.inl rfl) (by decide) (by decide))) (by decide) (fun _ => rfl) rfl rfl rfl)
    (sss_cons (ss_setLc' (own := [("s", 9)]) rfl nd__law_planned (si_any (se_var rfl (.inl rfl) (by decide) (by decide))) (blkOk_by rfl) (fun _ _ _ _ _ => (sg_name nd__law_planned rfl (.inl rfl) (.inr rfl))) (fun _ _ _ _ _ => (sts_one (st_cmp op_ltA sLt (nomark _) (se_call (ok__law_take T) runF_len (hr.mono (by omega)) rfl T.m__law_take T.F__law_take.kp (bd__law_take T) (sa_cons (se_var rfl (.inr (.inl rfl)) (by decide) (by decide)) (sa_cons se_int sa_nil rfl) rfl) (by decide) rfl rfl) se_int))) (fun _ _ _ _ _ => (se_var rfl (.inl rfl) (by decide) (by decide))) (by decide) (fun _ => rfl) rfl rfl rfl)
    (sss_cons (ss_for PassesOwn.never rfl (si_any (se_if (st_cmp (op_neD (Room_u64 hr)) sNe (nomark _) (se_var rfl (.inl rfl) (by decide) (by decide)) (se_lst sa_nil)) (se_var rfl (.inl rfl) (by decide) (by decide)) (se_sl (se_var rfl (.inl rfl) (by decide) (by decide)) so_none (so_some se_int)))) (sg_name nd__law_planned rfl (.inl rfl) (.inr rfl)) (sss_cons (ss_asg (se_tup (sa_cons se_int (sa_cons (se_call (ok__law_events T) runF_len (hr.mono (by omega)) rfl T.m__law_events T.F__law_events.kp (bd__law_events T) (sa_cons (se_var rfl (.inr (.inl rfl)) (by decide) (by decide)) (sa_cons (se_var rfl (.inr (.inl rfl)) (by decide) (by decide)) (sa_cons (se_ix (Room_u1 hr) (fun _ _ => rfl) (se_var rfl (.inl rfl) (by decide) (by decide)) (se_var rfl (.inr (.inl rfl)) (by decide) (by decide))) (sa_cons se_non sa_nil rfl) rfl) rfl) rfl) (by decide) rfl rfl) sa_nil rfl) rfl)) (sg_sub (Room_u1 hr) (se_var rfl (.inr (.inl rfl)) (by decide) (by decide)) (se_tup (sa_cons (se_var rfl (.inr (.inl rfl)) (by decide) (by decide)) (sa_cons (se_var rfl (.inl rfl) (by decide) (by decide)) sa_nil rfl) rfl)) (fun _ => rfl)) rfl rfl rfl)
    sss_nil) (fun _ => rfl))
    sss_nil))) (fun _ => rfl))
    (sss_cons (ss_ret (se_lst (sa_cons (se_var rfl (.inr (.inl rfl)) (by decide) (by decide)) (sa_cons (se_var rfl (.inr (.inl rfl)) (by decide) (by decide)) (sa_cons (se_var rfl (.inl rfl) (by decide) (by decide)) (sa_cons (se_var rfl (.inl rfl) (by decide) (by decide)) sa_nil rfl) rfl) rfl) rfl)))
    sss_nil))))
theorem ok__law_planned (T : Tx K mg) : FnOk P w K mg base CX0 4 T.a__law_planned T.d__law_planned ["box", "many", "count"] (spF K mg 3 f__law_planned) := fn_ev T.F__law_planned sc__law_planned (dv__law_planned T)
theorem bd__law_words (T : Tx K mg) : Binds K T.d__law_words ["plan"] [] := T.F__law_words.binds fun _ _ _ _ _ _ us hl => match us, hl with | [_], _ => rfl
theorem nd__law_words : N__law_words.Nodup := by decide +kernel
theorem sc__law_words : FnScope N__law_words ["plan"] (defScope s__law_words) := ⟨rfl, rfl, rfl, nd__law_words, rfl, by decide +kernel, by decide +kernel⟩
theorem dv__law_words (T : Tx K mg) (cdv : Value) (A : Around) (outer : List PySem.Env) (s : Shared) (H : Hp) (E : XK) (hr : Room 0 (A.deeper (envOfC "_law_words" (defScope s__law_words) s.heap.objs.size T.a__law_words cdv))) :
    SSs (cxOf CX0 P w K mg base N__law_words "_law_words" (defScope s__law_words) T.a__law_words cdv A outer s H E).nox (defBody s__law_words) b__law_words :=
    (sss_cons (ss_asg (se_var rfl (.inl rfl) (by decide) (by decide)) (sg_tup rfl (sgs_cons (sg_name nd__law_words rfl (.inl rfl) (.inr rfl)) (sgs_cons (sg_name nd__law_words rfl (.inl rfl) (.inr rfl)) (sgs_cons (sg_name nd__law_words rfl (.inl rfl) (.inr rfl)) (sgs_cons (sg_name nd__law_words rfl (.inl rfl) (.inr rfl)) sgs_nil rfl) rfl) rfl) rfl) rfl rfl) rfl rfl rfl)
    (sss_cons (ss_set nd__law_words rfl (.inl rfl) (se_lst sa_nil) rfl (.inr rfl))
    (sss_cons (ss_lock (ss_for PassesOwn.never rfl (si_keys (se_var rfl (.inl rfl) (by decide) (by decide))) (sg_tup rfl (sgs_cons (sg_name nd__law_words rfl (.inl rfl) (.inr rfl)) (sgs_cons (sg_name nd__law_words rfl (.inl rfl) (.inr rfl)) sgs_nil rfl) rfl) rfl rfl) (sss_cons (ss_if (st_cmp (op_eqD (Room_u64 hr)) sEq (nomark _) (se_ix (Room_u1 hr) (fun _ _ => rfl) (se_ix (Room_u1 hr) (fun _ _ => rfl) (se_var rfl (.inl rfl) (by decide) (by decide)) (se_tup (sa_cons (se_var rfl (.inl rfl) (by decide) (by decide)) (sa_cons (se_var rfl (.inl rfl) (by decide) (by decide)) sa_nil rfl) rfl))) se_int) se_int) (sss_cons (ss_par3 rfl nd__law_words rfl rfl rfl (by decide) (by decide) (by decide) rfl rfl rfl (sa_cons (se_op op_addA sAdd (se_ix (Room_u1 hr) (fun _ _ => rfl) (se_var rfl (.inl rfl) (by decide) (by decide)) (se_var rfl (.inl rfl) (by decide) (by decide))) (se_ix (Room_u1 hr) (fun _ _ => rfl) se_str (se_var rfl (.inl rfl) (by decide) (by decide)))) (sa_cons (se_tup sa_nil) (sa_cons se_int sa_nil rfl) rfl) rfl) rfl rfl)
    (sss_cons (ss_for PassesOwn.never rfl (si_any (se_var rfl (.inl rfl) (by decide) (by decide))) (sg_name nd__law_words rfl (.inl rfl) (.inr rfl)) (sss_cons (ss_set nd__law_words rfl (.inl rfl) (se_op op_addA sAdd (se_var rfl (.inl rfl) (by decide) (by decide)) (se_ix (Room_u1 hr) (fun _ _ => rfl) (se_ix (Room_u1 hr) (fun _ _ => rfl) (se_var rfl (.inl rfl) (by decide) (by decide)) (se_tup (sa_cons (se_var rfl (.inl rfl) (by decide) (by decide)) (sa_cons (se_meth m_index se_str (sa_cons (se_var rfl (.inl rfl) (by decide) (by decide)) sa_nil rfl) rfl rfl rfl rfl rfl) sa_nil rfl) rfl))) se_int)) rfl (.inr rfl))
    (sss_cons (ss_set nd__law_words rfl (.inl rfl) (se_ix (Room_u1 hr) (fun _ _ => rfl) (se_ix (Room_u1 hr) (fun _ _ => rfl) (se_var rfl (.inl rfl) (by decide) (by decide)) (se_tup (sa_cons (se_var rfl (.inl rfl) (by decide) (by decide)) (sa_cons (se_meth m_index se_str (sa_cons (se_var rfl (.inl rfl) (by decide) (by decide)) sa_nil rfl) rfl rfl rfl rfl rfl) sa_nil rfl) rfl))) se_int) rfl (.inr rfl))
    sss_nil)) (fun _ => rfl))
    (sss_cons (ss_expr (se_meth m_append (se_var rfl (.inl rfl) (by decide) (by decide)) (sa_cons (se_tup (sa_cons (b_len rfl T.n_len (se_var rfl (.inl rfl) (by decide) (by decide)) rfl) (sa_cons (se_var rfl (.inl rfl) (by decide) (by decide)) (sa_cons (se_var rfl (.inl rfl) (by decide) (by decide)) sa_nil rfl) rfl) rfl)) sa_nil rfl) rfl rfl rfl rfl rfl) rfl)
    sss_nil))) sss_nil)
    sss_nil) (fun _ => rfl)))
    (sss_cons (ss_ret (se_comp (own := [("many_signs", 12), ("text", 8), ("events", 9)]) rfl nd__law_words (si_any (b_sorted rfl T.n_sorted (se_var rfl (.inl rfl) (by decide) (by decide)) rfl)) (blkOk_by rfl) (fun _ _ _ _ _ => (sg_tup rfl (sgs_cons (sg_name nd__law_words rfl (.inl rfl) (.inr rfl)) (sgs_cons (sg_name nd__law_words rfl (.inl rfl) (.inr rfl)) (sgs_cons (sg_name nd__law_words rfl (.inl rfl) (.inr rfl)) sgs_nil rfl) rfl) rfl) rfl rfl)) (fun _ _ _ _ _ => sts_nil) (fun _ _ _ _ _ => (se_tup (sa_cons (se_var rfl (.inl rfl) (by decide) (by decide)) (sa_cons (se_var rfl (.inl rfl) (by decide) (by decide)) sa_nil rfl) rfl))) (by decide) (fun _ => rfl)))
    sss_nil))))
theorem ok__law_words (T : Tx K mg) : FnOk P w K mg base CX0 1 T.a__law_words T.d__law_words ["plan"] (spF K mg 1 f__law_words) := fn_ev T.F__law_words sc__law_words (dv__law_words T)
theorem bd__law_rows (T : Tx K mg) : Binds K T.d__law_rows ["plan", "order"] [] := T.F__law_rows.binds fun _ _ _ _ _ _ us hl => match us, hl with | [_, _], _ => rfl
theorem nd__law_rows : N__law_rows.Nodup := by decide +kernel
theorem sc__law_rows : FnScope N__law_rows ["plan", "order"] (defScope s__law_rows) := ⟨rfl, rfl, rfl, nd__law_rows, rfl, by decide +kernel, by decide +kernel⟩
theorem dv__law_rows (T : Tx K mg) (cdv : Value) (A : Around) (outer : List PySem.Env) (s : Shared) (H : Hp) (E : XK) (hr : Room 0 (A.deeper (envOfC "_law_rows" (defScope s__law_rows) s.heap.objs.size T.a__law_rows cdv))) :
    SSs (cxOf CX0 P w K mg base N__law_rows "_law_rows" (defScope s__law_rows) T.a__law_rows cdv A outer s H E).nox (defBody s__law_rows) b__law_rows :=
    (sss_cons (ss_asg (se_var rfl (.inl rfl) (by decide) (by decide)) (sg_tup rfl (sgs_cons (sg_name nd__law_rows rfl (.inl rfl) (.inr rfl)) (sgs_cons (sg_name nd__law_rows rfl (.inl rfl) (.inr rfl)) (sgs_cons (sg_name nd__law_rows rfl (.inl rfl) (.inr rfl)) (sgs_cons (sg_name nd__law_rows rfl (.inl rfl) (.inr rfl)) sgs_nil rfl) rfl) rfl) rfl) rfl rfl) rfl rfl rfl)
    (sss_cons (ss_set nd__law_rows rfl (.inl rfl) (se_op op_mulA sMul (se_lst (sa_cons se_non sa_nil rfl)) (b_len rfl T.n_len (se_var rfl (.inl rfl) (by decide) (by decide)) rfl)) rfl (.inr rfl))
    (sss_cons (ss_for PassesOwn.never rfl (si_range1 rfl T.n_range (b_len rfl T.n_len (se_var rfl (.inl rfl) (by decide) (by decide)) rfl) rfl) (sg_name nd__law_rows rfl (.inl rfl) (.inr rfl)) (sss_cons (ss_set nd__law_rows rfl (.inl rfl) (se_lst sa_nil) rfl (.inr rfl))
    (sss_cons (ss_for PassesOwn.never rfl (si_range1 rfl T.n_range (se_var rfl (.inl rfl) (by decide) (by decide)) rfl) (sg_name nd__law_rows rfl (.inl rfl) (.inr rfl)) (sss_cons (ss_set nd__law_rows rfl (.inl rfl) (se_meth (m_get (Room_u1 hr)) (se_var rfl (.inl rfl) (by decide) (by decide)) (sa_cons (se_tup (sa_cons (se_var rfl (.inl rfl) (by decide) (by decide)) (sa_cons (se_var rfl (.inl rfl) (by decide) (by decide)) sa_nil rfl) rfl)) sa_nil rfl) rfl rfl rfl rfl rfl) rfl (.inr rfl))
    (sss_cons (ss_expr (se_meth m_append (se_var rfl (.inl rfl) (by decide) (by decide)) (sa_cons (se_if (st_cmp op_isA sIs (nomark _) (se_var rfl (.inl rfl) (by decide) (by decide)) se_non) se_non (se_tup (sa_cons (se_ix (Room_u1 hr) (fun _ _ => rfl) (se_var rfl (.inl rfl) (by decide) (by decide)) (se_ix (Room_u1 hr) (fun _ _ => rfl) (se_var rfl (.inl rfl) (by decide) (by decide)) se_int)) (sa_cons (se_ix (Room_u1 hr) (fun _ _ => rfl) (se_var rfl (.inl rfl) (by decide) (by decide)) se_int) sa_nil rfl) rfl))) sa_nil rfl) rfl rfl rfl rfl rfl) rfl)
    sss_nil)) (fun _ => rfl))
    (sss_cons (ss_asg (b_tuple rfl T.n_tuple (se_var rfl (.inl rfl) (by decide) (by decide)) rfl) (sg_sub (Room_u1 hr) (se_var rfl (.inl rfl) (by decide) (by decide)) (se_ix (Room_u1 hr) (fun _ _ => rfl) (se_var rfl (.inl rfl) (by decide) (by decide)) (se_var rfl (.inl rfl) (by decide) (by decide))) (fun _ => rfl)) rfl rfl rfl)
    sss_nil))) (fun _ => rfl))
    (sss_cons (ss_ret (b_tuple rfl T.n_tuple (se_var rfl (.inl rfl) (by decide) (by decide)) rfl))
    sss_nil))))
theorem ok__law_rows (T : Tx K mg) : FnOk P w K mg base CX0 1 T.a__law_rows T.d__law_rows ["plan", "order"] (spF K mg 2 f__law_rows) := fn_ev T.F__law_rows sc__law_rows (dv__law_rows T)
theorem bd__law_order (T : Tx K mg) : Binds K T.d__law_order ["box", "count"] [] := T.F__law_order.binds fun _ _ _ _ _ _ us hl => match us, hl with | [_, _], _ => rfl
theorem nd__law_order : N__law_order.Nodup := by decide +kernel
theorem sc__law_order : FnScope N__law_order ["box", "count"] (defScope s__law_order) := ⟨rfl, rfl, rfl, nd__law_order, rfl, by decide +kernel, by decide +kernel⟩
theorem dv__law_order (T : Tx K mg) (cdv : Value) (A : Around) (outer : List PySem.Env) (s : Shared) (H : Hp) (E : XK) (hr : Room 1 (A.deeper (envOfC "_law_order" (defScope s__law_order) s.heap.objs.size T.a__law_order cdv))) :
    SSs (cxOf CX0 P w K mg base N__law_order "_law_order" (defScope s__law_order) T.a__law_order cdv A outer s H E).nox (defBody s__law_order) b__law_order :=
    (sss_cons (ss_par rfl nd__law_order rfl rfl (by decide) rfl rfl (sa_cons (se_listRg2 rfl rfl T.n_list rfl T.n_range se_int (se_var rfl (.inl rfl) (by decide) (by decide)) rfl rfl rfl rfl) (sa_cons (se_lst (sa_cons se_int sa_nil rfl)) sa_nil rfl) rfl) rfl rfl)
    (sss_cons (ss_for PassesOwn.never rfl (si_range2 rfl T.n_range se_int (se_var rfl (.inl rfl) (by decide) (by decide)) rfl rfl) (sg_name nd__law_order rfl (.inl rfl) (.inr rfl)) (sss_cons (ss_expr (se_meth m_append (se_var rfl (.inl rfl) (by decide) (by decide)) (sa_cons (se_meth m_pop (se_var rfl (.inl rfl) (by decide) (by decide)) (sa_cons (se_call (ok__law_take T) runF_len (hr.mono (by omega)) rfl T.m__law_take T.F__law_take.kp (bd__law_take T) (sa_cons (se_var rfl (.inl rfl) (by decide) (by decide)) (sa_cons (b_len rfl T.n_len (se_var rfl (.inl rfl) (by decide) (by decide)) rfl) sa_nil rfl) rfl) (by decide) rfl rfl) sa_nil rfl) rfl rfl rfl rfl rfl) sa_nil rfl) rfl rfl rfl rfl rfl) rfl)
    sss_nil) (fun _ => rfl))
    (sss_cons (ss_ret (se_var rfl (.inl rfl) (by decide) (by decide)))
    sss_nil)))
theorem ok__law_order (T : Tx K mg) : FnOk P w K mg base CX0 2 T.a__law_order T.d__law_order ["box", "count"] (spF K mg 2 f__law_order) := fn_ev T.F__law_order sc__law_order (dv__law_order T)
theorem bd__law_items (T : Tx K mg) : Binds K T.d__law_items ["events"] [] := T.F__law_items.binds fun _ _ _ _ _ _ us hl => match us, hl with | [_], _ => rfl
theorem nd__law_items : N__law_items.Nodup := by decide +kernel
theorem sc__law_items : FnScope N__law_items ["events"] (defScope s__law_items) := ⟨rfl, rfl, rfl, nd__law_items, rfl, by decide +kernel, by decide +kernel⟩
theorem dv__law_items (T : Tx K mg) (cdv : Value) (A : Around) (outer : List PySem.Env) (s : Shared) (H : Hp) (E : XK) (hr : Room 0 (A.deeper (envOfC "_law_items" (defScope s__law_items) s.heap.objs.size T.a__law_items cdv))) :
    SSs (cxOf CX0 P w K mg base N__law_items "_law_items" (defScope s__law_items) T.a__law_items cdv A outer s H E).nox (defBody s__law_items) b__law_items :=
    (sss_cons (ss_par rfl nd__law_items rfl rfl (by decide) rfl rfl (sa_cons (se_lst sa_nil) (sa_cons (se_lst (sa_cons se_int (sa_cons se_str sa_nil rfl) rfl)) sa_nil rfl) rfl) rfl rfl)
    (sss_cons (ss_for PassesOwn.never rfl (si_any (se_var rfl (.inl rfl) (by decide) (by decide))) (sg_name nd__law_items rfl (.inl rfl) (.inr rfl)) (sss_cons (ss_if (st_cmp (op_eqD (Room_u64 hr)) sEq (nomark _) (se_ix (Room_u1 hr) (fun _ _ => rfl) (se_var rfl (.inl rfl) (by decide) (by decide)) se_int) se_str) (sss_cons (ss_expr (se_meth m_append (se_var rfl (.inl rfl) (by decide) (by decide)) (sa_cons (se_var rfl (.inl rfl) (by decide) (by decide)) sa_nil rfl) rfl rfl rfl rfl rfl) rfl)
    sss_nil) (sss_cons (ss_if (st_cmp (op_eqD (Room_u64 hr)) sEq (nomark _) (se_ix (Room_u1 hr) (fun _ _ => rfl) (se_var rfl (.inl rfl) (by decide) (by decide)) se_int) se_str) (sss_cons (ss_set nd__law_items rfl (.inl rfl) (se_lst (sa_cons (se_ix (Room_u1 hr) (fun _ _ => rfl) (se_var rfl (.inl rfl) (by decide) (by decide)) se_int) (sa_cons se_str sa_nil rfl) rfl)) rfl (.inr rfl))
    sss_nil) (sss_cons (ss_if (st_cmp (op_eqD (Room_u64 hr)) sEq (nomark _) (se_ix (Room_u1 hr) (fun _ _ => rfl) (se_var rfl (.inl rfl) (by decide) (by decide)) se_int) se_str) (sss_cons (ss_set nd__law_items rfl (.inl rfl) (se_lst (sa_cons (se_ix (Room_u1 hr) (fun _ _ => rfl) (se_var rfl (.inl rfl) (by decide) (by decide)) se_int) (sa_cons (se_op op_addA sAdd (se_ix (Room_u1 hr) (fun _ _ => rfl) (se_var rfl (.inl rfl) (by decide) (by decide)) se_int) (se_ix (Room_u1 hr) (fun _ _ => rfl) (se_var rfl (.inl rfl) (by decide) (by decide)) se_int)) sa_nil rfl) rfl)) rfl (.inr rfl))
    sss_nil) (sss_cons (ss_expr (se_meth m_append (se_var rfl (.inl rfl) (by decide) (by decide)) (sa_cons (se_tup (sa_cons se_str (sa_cons (se_ix (Room_u1 hr) (fun _ _ => rfl) (se_var rfl (.inl rfl) (by decide) (by decide)) se_int) (sa_cons (se_ix (Room_u1 hr) (fun _ _ => rfl) (se_var rfl (.inl rfl) (by decide) (by decide)) se_int) sa_nil rfl) rfl) rfl)) sa_nil rfl) rfl rfl rfl rfl rfl) rfl)
    sss_nil))
    sss_nil))
    sss_nil))
    sss_nil) (fun _ => rfl))
    (sss_cons (ss_ret (b_tuple rfl T.n_tuple (se_var rfl (.inl rfl) (by decide) (by decide)) rfl))
    sss_nil)))
theorem ok__law_items (T : Tx K mg) : FnOk P w K mg base CX0 1 T.a__law_items T.d__law_items ["events"] (spF K mg 1 f__law_items) := fn_ev T.F__law_items sc__law_items (dv__law_items T)
theorem bd__law_behind (T : Tx K mg) : Binds K T.d__law_behind ["plan", "text"] [] := T.F__law_behind.binds fun _ _ _ _ _ _ us hl => match us, hl with | [_, _], _ => rfl
theorem nd__law_behind : N__law_behind.Nodup := by decide +kernel
theorem sc__law_behind : FnScope N__law_behind ["plan", "text"] (defScope s__law_behind) := ⟨rfl, rfl, rfl, nd__law_behind, rfl, by decide +kernel, by decide +kernel⟩
theorem dv__law_behind (T : Tx K mg) (cdv : Value) (A : Around) (outer : List PySem.Env) (s : Shared) (H : Hp) (E : XK) (hr : Room 0 (A.deeper (envOfC "_law_behind" (defScope s__law_behind) s.heap.objs.size T.a__law_behind cdv))) :
    SSs (cxOf CX0 P w K mg base N__law_behind "_law_behind" (defScope s__law_behind) T.a__law_behind cdv A outer s H E).nox (defBody s__law_behind) b__law_behind :=
    (sss_cons (ss_asg (se_tup (sa_cons se_int (sa_cons (se_tup sa_nil) sa_nil rfl) rfl)) (sg_tup rfl (sgs_cons (sg_name nd__law_behind rfl (.inl rfl) (.inr rfl)) (sgs_cons (sg_name nd__law_behind rfl (.inl rfl) (.inr rfl)) sgs_nil rfl) rfl) rfl rfl) rfl rfl rfl)
    (sss_cons (ss_for PassesOwn.never rfl (si_range1 rfl T.n_range (b_len rfl T.n_len (se_var rfl (.inl rfl) (by decide) (by decide)) rfl) rfl) (sg_name nd__law_behind rfl (.inl rfl) (.inr rfl)) (sss_cons (ss_set nd__law_behind rfl (.inl rfl) (se_meth (m_get (Room_u1 hr)) (se_ix (Room_u1 hr) (fun _ _ => rfl) (se_var rfl (.inl rfl) (by decide) (by decide)) se_int) (sa_cons (se_tup (sa_cons (se_var rfl (.inl rfl) (by decide) (by decide)) (sa_cons (se_meth m_index se_str (sa_cons (se_ix (Room_u1 hr) (fun _ _ => rfl) (se_var rfl (.inl rfl) (by decide) (by decide)) (se_var rfl (.inl rfl) (by decide) (by decide))) sa_nil rfl) rfl rfl rfl rfl rfl) sa_nil rfl) rfl)) sa_nil rfl) rfl rfl rfl rfl rfl) rfl (.inr rfl))
    (sss_cons (ss_if (st_cmp op_isA sIs (nomark _) (se_var rfl (.inl rfl) (by decide) (by decide)) se_non) (sss_cons (ss_ret (se_var rfl (.inl rfl) (by decide) (by decide)))
    sss_nil) sss_nil)
    (sss_cons (ss_par rfl nd__law_behind rfl rfl (by decide) rfl rfl (sa_cons (se_ix (Room_u1 hr) (fun _ _ => rfl) (se_var rfl (.inl rfl) (by decide) (by decide)) se_int) (sa_cons (se_op op_addA sAdd (se_var rfl (.inl rfl) (by decide) (by decide)) (se_ix (Room_u1 hr) (fun _ _ => rfl) (se_var rfl (.inl rfl) (by decide) (by decide)) se_int)) sa_nil rfl) rfl) rfl rfl)
    sss_nil))) (fun _ => rfl))
    (sss_cons (ss_ret (se_tup (sa_cons (se_var rfl (.inl rfl) (by decide) (by decide)) (sa_cons (se_var rfl (.inl rfl) (by decide) (by decide)) sa_nil rfl) rfl)))
    sss_nil)))
theorem ok__law_behind (T : Tx K mg) : FnOk P w K mg base CX0 1 T.a__law_behind T.d__law_behind ["plan", "text"] (spF K mg 2 f__law_behind) := fn_ev T.F__law_behind sc__law_behind (dv__law_behind T)
theorem bd__law_flat (T : Tx K mg) : Binds K T.d__law_flat ["told"] [] := T.F__law_flat.binds fun _ _ _ _ _ _ us hl => match us, hl with | [_], _ => rfl
theorem nd__law_flat : N__law_flat.Nodup := by decide +kernel
theorem sc__law_flat : FnScope N__law_flat ["told"] (defScope s__law_flat) := ⟨rfl, rfl, rfl, nd__law_flat, rfl, by decide +kernel, by decide +kernel⟩
theorem dv__law_flat (T : Tx K mg) (cdv : Value) (A : Around) (outer : List PySem.Env) (s : Shared) (H : Hp) (E : XK) (hr : Room 0 (A.deeper (envOfC "_law_flat" (defScope s__law_flat) s.heap.objs.size T.a__law_flat cdv))) :
    SSs (cxOf CX0 P w K mg base N__law_flat "_law_flat" (defScope s__law_flat) T.a__law_flat cdv A outer s H E).nox (defBody s__law_flat) b__law_flat :=
    (sss_cons (ss_set nd__law_flat rfl (.inl rfl) (se_lst sa_nil) rfl (.inr rfl))
    (sss_cons (ss_for PassesOwn.never rfl (si_any (se_var rfl (.inl rfl) (by decide) (by decide))) (sg_name nd__law_flat rfl (.inl rfl) (.inr rfl)) (sss_cons (ss_expr (se_meth m_append (se_var rfl (.inl rfl) (by decide) (by decide)) (sa_cons (se_if (st_cmp (op_eqD (Room_u64 hr)) sEq (nomark _) (se_ix (Room_u1 hr) (fun _ _ => rfl) (se_var rfl (.inl rfl) (by decide) (by decide)) se_int) se_str) (se_tup (sa_cons se_str (sa_cons (se_ix (Room_u1 hr) (fun _ _ => rfl) (se_var rfl (.inl rfl) (by decide) (by decide)) se_int) sa_nil rfl) rfl)) (se_var rfl (.inl rfl) (by decide) (by decide))) sa_nil rfl) rfl rfl rfl rfl rfl) rfl)
    (sss_cons (ss_if (st_cmp (op_eqD (Room_u64 hr)) sEq (nomark _) (se_ix (Room_u1 hr) (fun _ _ => rfl) (se_var rfl (.inl rfl) (by decide) (by decide)) se_int) se_str) (sss_cons (ss_expr (se_meth m_extend (se_var rfl (.inl rfl) (by decide) (by decide)) (sa_cons (se_op op_addA sAdd (se_comp (own := [("sign", 3)]) rfl nd__law_flat (si_any (se_ix (Room_u1 hr) (fun _ _ => rfl) (se_var rfl (.inl rfl) (by decide) (by decide)) se_int)) (blkOk_by rfl) (fun _ _ _ _ _ => (sg_name nd__law_flat rfl (.inl rfl) (.inr rfl))) (fun _ _ _ _ _ => sts_nil) (fun _ _ _ _ _ => (se_tup (sa_cons se_str (sa_cons (se_var rfl (.inl rfl) (by decide) (by decide)) sa_nil rfl) rfl))) (by decide) (fun _ => rfl)) (se_lst (sa_cons (se_tup (sa_cons se_str sa_nil rfl)) sa_nil rfl))) sa_nil rfl) rfl rfl rfl rfl rfl) rfl)
    sss_nil) sss_nil)
    sss_nil)) (fun _ => rfl))
    (sss_cons (ss_ret (b_tuple rfl T.n_tuple (se_var rfl (.inl rfl) (by decide) (by decide)) rfl))
    sss_nil)))
theorem ok__law_flat (T : Tx K mg) : FnOk P w K mg base CX0 1 T.a__law_flat T.d__law_flat ["told"] (spF K mg 1 f__law_flat) := fn_ev T.F__law_flat sc__law_flat (dv__law_flat T)
theorem bd__law_told (T : Tx K mg) : Binds K T.d__law_told ["reader", "text", "named"] [] := T.F__law_told.binds fun _ _ _ _ _ _ us hl => match us, hl with | [_, _, _], _ => rfl
theorem nd__law_told : N__law_told.Nodup := by decide +kernel
theorem sc__law_told : FnScope N__law_told ["reader", "text", "named"] (defScope s__law_told) := ⟨rfl, rfl, rfl, nd__law_told, rfl, by decide +kernel, by decide +kernel⟩
theorem dv__law_told (T : Tx K mg) (cdv : Value) (A : Around) (outer : List PySem.Env) (s : Shared) (H : Hp) (E : XK) (hr : Room 4 (A.deeper (envOfC "_law_told" (defScope s__law_told) s.heap.objs.size T.a__law_told cdv))) :
    SSs (cxOf CX0 P w K mg base N__law_told "_law_told" (defScope s__law_told) T.a__law_told cdv A outer s H E).nox (defBody s__law_told) b__law_told :=
    (sss_cons (ss_if (st_truth (se_var rfl (.inl rfl) (by decide) (by decide)) (fun _ => rfl)) (sss_cons (ss_ret (se_lst (sa_cons (se_callK (ks := ["text", "reader"]) (ok_reads T) runF_len (hr.mono (by omega)) rfl T.m_reads T.F_reads.kp (kb_reads_text_reader T) (sk_cons (se_var rfl (.inl rfl) (by decide) (by decide)) (sk_cons (se_var rfl (.inl rfl) (by decide) (by decide)) sk_nil)) rfl rfl (by decide) rfl) (sa_cons (se_callK (ks := ["text", "reader"]) (ok_items T) runF_len (hr.mono (by omega)) rfl T.m_items T.F_items.kp (kb_items_text_reader T) (sk_cons (se_var rfl (.inl rfl) (by decide) (by decide)) (sk_cons (se_var rfl (.inl rfl) (by decide) (by decide)) sk_nil)) rfl rfl (by decide) rfl) (sa_cons (se_callK (ks := ["text", "reader"]) (ok_stuck_at T) runF_len (hr.mono (by omega)) rfl T.m_stuck_at T.F_stuck_at.kp (kb_stuck_at_text_reader T) (sk_cons (se_var rfl (.inl rfl) (by decide) (by decide)) (sk_cons (se_var rfl (.inl rfl) (by decide) (by decide)) sk_nil)) rfl rfl (by decide) rfl) (sa_cons (se_callK (ks := ["text", "state", "reader"]) (ok_read_from T) runF_len (hr.mono (by omega)) rfl T.m_read_from T.F_read_from.kp (kb_read_from_text_state_reader T) (sk_cons (se_var rfl (.inl rfl) (by decide) (by decide)) (sk_cons se_int (sk_cons (se_var rfl (.inl rfl) (by decide) (by decide)) sk_nil))) rfl rfl (by decide) rfl) sa_nil rfl) rfl) rfl) rfl)))
    sss_nil) sss_nil)
    (sss_cons (ss_ret (se_lst (sa_cons (se_call (ok_reads T) runF_len (hr.mono (by omega)) rfl T.m_reads T.F_reads.kp (bd_reads T) (sa_cons (se_var rfl (.inl rfl) (by decide) (by decide)) (sa_cons (se_var rfl (.inl rfl) (by decide) (by decide)) sa_nil rfl) rfl) (by decide) rfl rfl) (sa_cons (se_call (ok_items T) runF_len (hr.mono (by omega)) rfl T.m_items T.F_items.kp (bd_items T) (sa_cons (se_var rfl (.inl rfl) (by decide) (by decide)) (sa_cons (se_var rfl (.inl rfl) (by decide) (by decide)) sa_nil rfl) rfl) (by decide) rfl rfl) (sa_cons (se_call (ok_stuck_at T) runF_len (hr.mono (by omega)) rfl T.m_stuck_at T.F_stuck_at.kp (bd_stuck_at T) (sa_cons (se_var rfl (.inl rfl) (by decide) (by decide)) (sa_cons (se_var rfl (.inl rfl) (by decide) (by decide)) sa_nil rfl) rfl) (by decide) rfl rfl) (sa_cons (se_call (ok_read_from T) runF_len (hr.mono (by omega)) rfl T.m_read_from T.F_read_from.kp (bd_read_from T) (sa_cons (se_var rfl (.inl rfl) (by decide) (by decide)) (sa_cons se_int (sa_cons (se_var rfl (.inl rfl) (by decide) (by decide)) sa_nil rfl) rfl) rfl) (by decide) rfl rfl) sa_nil rfl) rfl) rfl) rfl)))
    sss_nil))
theorem ok__law_told (T : Tx K mg) : FnOk P w K mg base CX0 5 T.a__law_told T.d__law_told ["reader", "text", "named"] (spF K mg 3 f__law_told) := fn_ev T.F__law_told sc__law_told (dv__law_told T)
theorem bd__law_text_right (T : Tx K mg) : Binds K T.d__law_text_right ["reader", "words", "rest", "order", "named"] [] := T.F__law_text_right.binds fun _ _ _ _ _ _ us hl => match us, hl with | [_, _, _, _, _], _ => rfl
theorem nd__law_text_right : N__law_text_right.Nodup := by decide +kernel
theorem sc__law_text_right : FnScope N__law_text_right ["reader", "words", "rest", "order", "named"] (defScope s__law_text_right) := ⟨rfl, rfl, rfl, nd__law_text_right, rfl, by decide +kernel, by decide +kernel⟩
theorem dv__law_text_right (T : Tx K mg) (cdv : Value) (A : Around) (outer : List PySem.Env) (s : Shared) (H : Hp) (E : XK) (hr : Room 12 (A.deeper (envOfC "_law_text_right" (defScope s__law_text_right) s.heap.objs.size T.a__law_text_right cdv))) :
    SSs (cxOf CX0 P w K mg base N__law_text_right "_law_text_right" (defScope s__law_text_right) T.a__law_text_right cdv A outer s H E).nox (defBody s__law_text_right) b__law_text_right :=
    (sss_cons (ss_par rfl nd__law_text_right rfl rfl (by decide) rfl rfl (sa_cons (se_meth m_join se_str (sa_cons (se_comp (own := [("word", 5)]) rfl nd__law_text_right (si_any (se_var rfl (.inl rfl) (by decide) (by decide))) (blkOk_by rfl) (fun _ _ _ _ _ => (sg_name nd__law_text_right rfl (.inl rfl) (.inr rfl))) (fun _ _ _ _ _ => sts_nil) (fun _ _ _ _ _ => (se_ix (Room_u1 hr) (fun _ _ => rfl) (se_var rfl (.inl rfl) (by decide) (by decide)) se_int)) (by decide) (fun _ => rfl)) sa_nil rfl) rfl rfl rfl rfl rfl) (sa_cons (se_tup sa_nil) sa_nil rfl) rfl) rfl rfl)
    (sss_cons (ss_for PassesOwn.never rfl (si_any (se_var rfl (.inl rfl) (by decide) (by decide))) (sg_name nd__law_text_right rfl (.inl rfl) (.inr rfl)) (sss_cons (ss_set nd__law_text_right rfl (.inl rfl) (se_op op_addA sAdd (se_var rfl (.inl rfl) (by decide) (by decide)) (se_ix (Room_u1 hr) (fun _ _ => rfl) (se_var rfl (.inl rfl) (by decide) (by decide)) se_int)) rfl (.inr rfl))
    sss_nil) (fun _ => rfl))
    (sss_cons (ss_set nd__law_text_right rfl (.inl rfl) (se_lst sa_nil) rfl (.inr rfl))
    (sss_cons (ss_for PassesOwn.never rfl (si_any (se_var rfl (.inl rfl) (by decide) (by decide))) (sg_name nd__law_text_right rfl (.inl rfl) (.inr rfl)) (sss_cons (ss_expr (se_meth m_extend (se_var rfl (.inl rfl) (by decide) (by decide)) (sa_cons (se_call (ok__law_items T) runF_len (hr.mono (by omega)) rfl T.m__law_items T.F__law_items.kp (bd__law_items T) (sa_cons (se_ix (Room_u1 hr) (fun _ _ => rfl) (se_var rfl (.inl rfl) (by decide) (by decide)) se_int) sa_nil rfl) (by decide) rfl rfl) sa_nil rfl) rfl rfl rfl rfl rfl) rfl)
    sss_nil) (fun _ => rfl))
    (sss_cons (ss_asg (se_var rfl (.inl rfl) (by decide) (by decide)) (sg_tup rfl (sgs_cons (sg_name nd__law_text_right rfl (.inl rfl) (.inr rfl)) (sgs_cons (sg_name nd__law_text_right rfl (.inl rfl) (.inr rfl)) sgs_nil rfl) rfl) rfl rfl) rfl rfl rfl)
    (sss_cons (ss_if (st_truth (se_isi ⟨rfl, T.n_int, rfl, by decide, by decide⟩ rfl T.n_isinstance rfl (se_var rfl (.inl rfl) (by decide) (by decide)) (by decide) (by decide) rfl) (fun _ => rfl)) (sss_cons (ss_ret (se_call (ok__law_same T 12) (len__law_same 12) (hr.mono (by omega)) rfl T.m__law_same T.F__law_same.kp (bd__law_same T) (sa_cons (se_call (ok__law_told T) runF_len (hr.mono (by omega)) rfl T.m__law_told T.F__law_told.kp (bd__law_told T) (sa_cons (se_var rfl (.inl rfl) (by decide) (by decide)) (sa_cons (se_op op_addA sAdd (se_var rfl (.inl rfl) (by decide) (by decide)) (se_var rfl (.inl rfl) (by decide) (by decide))) (sa_cons (se_var rfl (.inl rfl) (by decide) (by decide)) sa_nil rfl) rfl) rfl) (by decide) rfl rfl) (sa_cons (se_lst (sa_cons se_non (sa_cons se_non (sa_cons (se_op op_addA sAdd (b_len rfl T.n_len (se_var rfl (.inl rfl) (by decide) (by decide)) rfl) (se_var rfl (.inl rfl) (by decide) (by decide))) (sa_cons se_non sa_nil rfl) rfl) rfl) rfl)) sa_nil rfl) rfl) (by decide) rfl rfl))
    sss_nil) sss_nil)
    (sss_cons (ss_if (st_cmp (op_neD (Room_u64 hr)) sNe (nomark _) (se_ix (Room_u1 hr) (fun _ _ => rfl) (se_var rfl (.inl rfl) (by decide) (by decide)) se_int) se_int) (sss_cons (ss_ret (se_call (ok__law_same T 12) (len__law_same 12) (hr.mono (by omega)) rfl T.m__law_same T.F__law_same.kp (bd__law_same T) (sa_cons (se_call (ok__law_told T) runF_len (hr.mono (by omega)) rfl T.m__law_told T.F__law_told.kp (bd__law_told T) (sa_cons (se_var rfl (.inl rfl) (by decide) (by decide)) (sa_cons (se_op op_addA sAdd (se_var rfl (.inl rfl) (by decide) (by decide)) (se_var rfl (.inl rfl) (by decide) (by decide))) (sa_cons (se_var rfl (.inl rfl) (by decide) (by decide)) sa_nil rfl) rfl) rfl) (by decide) rfl rfl) (sa_cons (se_lst (sa_cons se_non (sa_cons se_non (sa_cons (b_len rfl T.n_len (se_op op_addA sAdd (se_var rfl (.inl rfl) (by decide) (by decide)) (se_var rfl (.inl rfl) (by decide) (by decide))) rfl) (sa_cons (se_tup (sa_cons (se_ix (Room_u1 hr) (fun _ _ => rfl) (se_var rfl (.inl rfl) (by decide) (by decide)) (se_ix (Room_u1 hr) (fun _ _ => rfl) (se_var rfl (.inl rfl) (by decide) (by decide)) se_int)) (sa_cons (se_op op_addA sAdd (se_var rfl (.inl rfl) (by decide) (by decide)) (se_ix (Room_u1 hr) (fun _ _ => rfl) (se_var rfl (.inl rfl) (by decide) (by decide)) se_int)) sa_nil rfl) rfl)) sa_nil rfl) rfl) rfl) rfl)) sa_nil rfl) rfl) (by decide) rfl rfl))
    sss_nil) sss_nil)
    (sss_cons (ss_set nd__law_text_right rfl (.inl rfl) (se_op op_addA sAdd (b_tuple rfl T.n_tuple (se_var rfl (.inl rfl) (by decide) (by decide)) rfl) (se_call (ok__law_items T) runF_len (hr.mono (by omega)) rfl T.m__law_items T.F__law_items.kp (bd__law_items T) (sa_cons (se_ix (Room_u1 hr) (fun _ _ => rfl) (se_var rfl (.inl rfl) (by decide) (by decide)) se_int) sa_nil rfl) (by decide) rfl rfl)) rfl (.inr rfl))
    (sss_cons (ss_ret (se_and (se_cmp (op_eqD (Room_u64 hr)) sEq (nomark _) (se_call (ok__law_flat T) runF_len (hr.mono (by omega)) rfl T.m__law_flat T.F__law_flat.kp (bd__law_flat T) (sa_cons (se_var rfl (.inl rfl) (by decide) (by decide)) sa_nil rfl) (by decide) rfl rfl) (se_op op_addA sAdd (se_var rfl (.inl rfl) (by decide) (by decide)) (se_ix (Room_u1 hr) (fun _ _ => rfl) (se_var rfl (.inl rfl) (by decide) (by decide)) se_int))) (se_one (se_call (ok__law_same T 12) (len__law_same 12) (hr.mono (by omega)) rfl T.m__law_same T.F__law_same.kp (bd__law_same T) (sa_cons (se_call (ok__law_told T) runF_len (hr.mono (by omega)) rfl T.m__law_told T.F__law_told.kp (bd__law_told T) (sa_cons (se_var rfl (.inl rfl) (by decide) (by decide)) (sa_cons (se_op op_addA sAdd (se_var rfl (.inl rfl) (by decide) (by decide)) (se_var rfl (.inl rfl) (by decide) (by decide))) (sa_cons (se_var rfl (.inl rfl) (by decide) (by decide)) sa_nil rfl) rfl) rfl) (by decide) rfl rfl) (sa_cons (se_lst (sa_cons (se_op op_addA sAdd (se_var rfl (.inl rfl) (by decide) (by decide)) (se_ix (Room_u1 hr) (fun _ _ => rfl) (se_var rfl (.inl rfl) (by decide) (by decide)) se_int)) (sa_cons (se_var rfl (.inl rfl) (by decide) (by decide)) (sa_cons se_non (sa_cons (se_tup (sa_cons se_int (sa_cons (se_op op_addA sAdd (se_var rfl (.inl rfl) (by decide) (by decide)) (se_ix (Room_u1 hr) (fun _ _ => rfl) (se_var rfl (.inl rfl) (by decide) (by decide)) se_int)) sa_nil rfl) rfl)) sa_nil rfl) rfl) rfl) rfl)) sa_nil rfl) rfl) (by decide) rfl rfl))))
    sss_nil)))))))))
theorem ok__law_text_right (T : Tx K mg) : FnOk P w K mg base CX0 13 T.a__law_text_right T.d__law_text_right ["reader", "words", "rest", "order", "named"] (spF K mg 5 f__law_text_right) := fn_ev T.F__law_text_right sc__law_text_right (dv__law_text_right T)
theorem bd__law_inner_right (T : Tx K mg) : Binds K T.d__law_inner_right ["box", "plan", "reader", "words", "order", "named"] [] := T.F__law_inner_right.binds fun _ _ _ _ _ _ us hl => match us, hl with | [_, _, _, _, _, _], _ => rfl
theorem nd__law_inner_right : N__law_inner_right.Nodup := by decide +kernel
theorem sc__law_inner_right : FnScope N__law_inner_right ["box", "plan", "reader", "words", "order", "named"] (defScope s__law_inner_right) := ⟨rfl, rfl, rfl, nd__law_inner_right, rfl, by decide +kernel, by decide +kernel⟩
theorem dv__law_inner_right (T : Tx K mg) (cdv : Value) (A : Around) (outer : List PySem.Env) (s : Shared) (H : Hp) (E : XK) (hr : Room 12 (A.deeper (envOfC "_law_inner_right" (defScope s__law_inner_right) s.heap.objs.size T.a__law_inner_right cdv))) :
    SSs (cxOf CX0 P w K mg base N__law_inner_right "_law_inner_right" (defScope s__law_inner_right) T.a__law_inner_right cdv A outer s H E).nox (defBody s__law_inner_right) b__law_inner_right :=
    (sss_cons (ss_for PassesOwn.never rfl (si_range2 rfl T.n_range se_int (b_len rfl T.n_len (se_var rfl (.inl rfl) (by decide) (by decide)) rfl) rfl rfl) (sg_name nd__law_inner_right rfl (.inl rfl) (.inr rfl)) (sss_cons (ss_set nd__law_inner_right rfl (.inr rfl) (se_ix (Room_u1 hr) (fun _ _ => rfl) (se_ix (Room_u1 hr) (fun _ _ => rfl) (se_var rfl (.inl rfl) (by decide) (by decide)) se_int) (se_var rfl (.inl rfl) (by decide) (by decide))) rfl (.inl rfl))
    (sss_cons (ss_setLc' (own := [("word", 8)]) rfl nd__law_inner_right (si_any (se_var rfl (.inl rfl) (by decide) (by decide))) (blkOk_by rfl) (fun _ _ _ _ _ => (sg_name nd__law_inner_right rfl (.inl rfl) (.inr rfl))) (fun _ _ _ _ _ => (sts_one (st_cmp (op_eqD (Room_u64 hr)) sEq (nomark _) (se_sl (se_ix (Room_u1 hr) (fun _ _ => rfl) (se_var rfl (.inl rfl) (by decide) (by decide)) se_int) so_none (so_some (b_len rfl T.n_len (se_var rfl (.inr (.inl rfl)) (by decide) (by decide)) rfl))) (se_var rfl (.inr (.inl rfl)) (by decide) (by decide))))) (fun _ _ _ _ _ => (se_var rfl (.inl rfl) (by decide) (by decide))) (by decide) (fun _ => rfl) rfl rfl rfl)
    (sss_cons (ss_par rfl nd__law_inner_right rfl rfl (by decide) rfl rfl (sa_cons (se_call (ok__law_pick T) runF_len (hr.mono (by omega)) rfl T.m__law_pick T.F__law_pick.kp (bd__law_pick T) (sa_cons (se_var rfl (.inl rfl) (by decide) (by decide)) (sa_cons (se_var rfl (.inl rfl) (by decide) (by decide)) sa_nil rfl) rfl) (by decide) rfl rfl) (sa_cons (se_call (ok__law_pick T) runF_len (hr.mono (by omega)) rfl T.m__law_pick T.F__law_pick.kp (bd__law_pick T) (sa_cons (se_var rfl (.inl rfl) (by decide) (by decide)) (sa_cons (se_var rfl (.inl rfl) (by decide) (by decide)) sa_nil rfl) rfl) (by decide) rfl rfl) sa_nil rfl) rfl) rfl rfl)
    (sss_cons (ss_set nd__law_inner_right rfl (.inl rfl) (se_ix (Room_u1 hr) (fun _ _ => rfl) (se_call (ok__law_behind T) runF_len (hr.mono (by omega)) rfl T.m__law_behind T.F__law_behind.kp (bd__law_behind T) (sa_cons (se_var rfl (.inl rfl) (by decide) (by decide)) (sa_cons (se_var rfl (.inr (.inl rfl)) (by decide) (by decide)) sa_nil rfl) rfl) (by decide) rfl rfl) se_int) rfl (.inr rfl))
    (sss_cons (ss_par rfl nd__law_inner_right rfl rfl (by decide) rfl rfl (sa_cons (se_op op_addA sAdd (se_sl (se_ix (Room_u1 hr) (fun _ _ => rfl) (se_var rfl (.inl rfl) (by decide) (by decide)) se_int) (so_some (b_len rfl T.n_len (se_var rfl (.inr (.inl rfl)) (by decide) (by decide)) rfl)) so_none) (se_ix (Room_u1 hr) (fun _ _ => rfl) (se_var rfl (.inl rfl) (by decide) (by decide)) se_int)) (sa_cons (se_tup (sa_cons se_int (sa_cons (se_op op_addA sAdd (se_sl (se_ix (Room_u1 hr) (fun _ _ => rfl) (se_var rfl (.inl rfl) (by decide) (by decide)) se_int) (so_some (b_len rfl T.n_len (se_var rfl (.inl rfl) (by decide) (by decide)) rfl)) so_none) (se_ix (Room_u1 hr) (fun _ _ => rfl) (se_var rfl (.inl rfl) (by decide) (by decide)) se_int)) sa_nil rfl) rfl)) sa_nil rfl) rfl) rfl rfl)
    (sss_cons (ss_set nd__law_inner_right rfl (.inl rfl) (se_if (st_truth (se_var rfl (.inl rfl) (by decide) (by decide)) (fun _ => rfl)) (se_callK (ks := ["text", "state", "reader"]) (ok_read_from T) runF_len (hr.mono (by omega)) rfl T.m_read_from T.F_read_from.kp (kb_read_from_text_state_reader T) (sk_cons (se_var rfl (.inl rfl) (by decide) (by decide)) (sk_cons (se_ix (Room_u1 hr) (fun _ _ => rfl) (se_var rfl (.inl rfl) (by decide) (by decide)) (se_var rfl (.inl rfl) (by decide) (by decide))) (sk_cons (se_var rfl (.inl rfl) (by decide) (by decide)) sk_nil))) rfl rfl (by decide) rfl) (se_call (ok_read_from T) runF_len (hr.mono (by omega)) rfl T.m_read_from T.F_read_from.kp (bd_read_from T) (sa_cons (se_var rfl (.inl rfl) (by decide) (by decide)) (sa_cons (se_ix (Room_u1 hr) (fun _ _ => rfl) (se_var rfl (.inl rfl) (by decide) (by decide)) (se_var rfl (.inl rfl) (by decide) (by decide))) (sa_cons (se_var rfl (.inl rfl) (by decide) (by decide)) sa_nil rfl) rfl) rfl) (by decide) rfl rfl)) rfl (.inr rfl))
    (sss_cons (ss_if (st_not (st_truth (se_call (ok__law_same T 12) (len__law_same 12) (hr.mono (by omega)) rfl T.m__law_same T.F__law_same.kp (bd__law_same T) (sa_cons (se_var rfl (.inl rfl) (by decide) (by decide)) (sa_cons (se_var rfl (.inl rfl) (by decide) (by decide)) sa_nil rfl) rfl) (by decide) rfl rfl) (fun _ => rfl))) (sss_cons (ss_ret se_bl)
    sss_nil) sss_nil)
    (sss_cons (ss_set nd__law_inner_right rfl (.inl rfl) (se_not (se_var rfl (.inl rfl) (by decide) (by decide))) rfl (.inr rfl))
    sss_nil)))))))) (fun _ => rfl))
    (sss_cons (ss_ret se_bl)
    sss_nil))
theorem ok__law_inner_right (T : Tx K mg) : FnOk P w K mg base CX0 13 T.a__law_inner_right T.d__law_inner_right ["box", "plan", "reader", "words", "order", "named"] (spF K mg 6 f__law_inner_right) := fn_ev T.F__law_inner_right sc__law_inner_right (dv__law_inner_right T)
theorem bd__law_right (T : Tx K mg) : Binds K T.d__law_right ["box", "plan", "reader", "order", "named"] [] := T.F__law_right.binds fun _ _ _ _ _ _ us hl => match us, hl with | [_, _, _, _, _], _ => rfl
theorem nd__law_right : N__law_right.Nodup := by decide +kernel
theorem sc__law_right : FnScope N__law_right ["box", "plan", "reader", "order", "named"] (defScope s__law_right) := ⟨rfl, rfl, rfl, nd__law_right, rfl, by decide +kernel, by decide +kernel⟩
theorem dv__law_right (T : Tx K mg) (cdv : Value) (A : Around) (outer : List PySem.Env) (s : Shared) (H : Hp) (E : XK) (hr : Room 13 (A.deeper (envOfC "_law_right" (defScope s__law_right) s.heap.objs.size T.a__law_right cdv))) :
    SSs (cxOf CX0 P w K mg base N__law_right "_law_right" (defScope s__law_right) T.a__law_right cdv A outer s H E).nox (defBody s__law_right) b__law_right :=
    (sss_cons (ss_set nd__law_right rfl (.inr rfl) (se_call (ok__law_words T) runF_len (hr.mono (by omega)) rfl T.m__law_words T.F__law_words.kp (bd__law_words T) (sa_cons (se_var rfl (.inl rfl) (by decide) (by decide)) sa_nil rfl) (by decide) rfl rfl) rfl (.inl rfl))
    (sss_cons (ss_set nd__law_right rfl (.inl rfl) (se_op op_mulA sMul (se_lst (sa_cons se_non sa_nil rfl)) (b_len rfl T.n_len (se_var rfl (.inl rfl) (by decide) (by decide)) rfl)) rfl (.inr rfl))
    (sss_cons (ss_for PassesOwn.never rfl (si_range1 rfl T.n_range (b_len rfl T.n_len (se_var rfl (.inl rfl) (by decide) (by decide)) rfl) rfl) (sg_name nd__law_right rfl (.inl rfl) (.inr rfl)) (sss_cons (ss_asg (se_ix (Room_u1 hr) (fun _ _ => rfl) (se_ix (Room_u1 hr) (fun _ _ => rfl) (se_var rfl (.inl rfl) (by decide) (by decide)) se_int) (se_var rfl (.inl rfl) (by decide) (by decide))) (sg_sub (Room_u1 hr) (se_var rfl (.inl rfl) (by decide) (by decide)) (se_ix (Room_u1 hr) (fun _ _ => rfl) (se_var rfl (.inl rfl) (by decide) (by decide)) (se_var rfl (.inl rfl) (by decide) (by decide))) (fun _ => rfl)) rfl rfl rfl)
    sss_nil) (fun _ => rfl))
    (sss_cons (ss_set nd__law_right rfl (.inl rfl) (se_if (st_truth (se_var rfl (.inl rfl) (by decide) (by decide)) (fun _ => rfl)) (se_callK (ks := ["reader"]) (ok_modes T) runF_len (hr.mono (by omega)) rfl T.m_modes T.F_modes.kp (kb_modes_reader T) (sk_cons (se_var rfl (.inl rfl) (by decide) (by decide)) sk_nil) rfl rfl (by decide) rfl) (se_call (ok_modes T) runF_len (hr.mono (by omega)) rfl T.m_modes T.F_modes.kp (bd_modes T) (sa_cons (se_var rfl (.inl rfl) (by decide) (by decide)) sa_nil rfl) (by decide) rfl rfl)) rfl (.inr rfl))
    (sss_cons (ss_if (PW.pt (sw_or (st_not (st_truth (se_call (ok__law_same T 12) (len__law_same 12) (hr.mono (by omega)) rfl T.m__law_same T.F__law_same.kp (bd__law_same T) (sa_cons (se_var rfl (.inl rfl) (by decide) (by decide)) (sa_cons (b_tuple rfl T.n_tuple (se_var rfl (.inl rfl) (by decide) (by decide)) rfl) sa_nil rfl) rfl) (by decide) rfl rfl) (fun _ => rfl))) (sw_or1 (st_not (st_truth (se_call (ok__law_same T 12) (len__law_same 12) (hr.mono (by omega)) rfl T.m__law_same T.F__law_same.kp (bd__law_same T) (sa_cons (se_lst (sa_cons (se_fld (fo_many T rfl rfl) (se_var rfl (.inl rfl) (by decide) (by decide)) rfl) (sa_cons (se_fld (fo_rows T rfl rfl) (se_var rfl (.inl rfl) (by decide) (by decide)) rfl) (sa_cons (se_fld (fo_ends T rfl rfl) (se_var rfl (.inl rfl) (by decide) (by decide)) rfl) sa_nil rfl) rfl) rfl)) (sa_cons (se_lst (sa_cons (se_ix (Room_u1 hr) (fun _ _ => rfl) (se_var rfl (.inl rfl) (by decide) (by decide)) se_int) (sa_cons (se_call (ok__law_rows T) runF_len (hr.mono (by omega)) rfl T.m__law_rows T.F__law_rows.kp (bd__law_rows T) (sa_cons (se_var rfl (.inl rfl) (by decide) (by decide)) (sa_cons (se_var rfl (.inl rfl) (by decide) (by decide)) sa_nil rfl) rfl) (by decide) rfl rfl) (sa_cons (se_tup (sa_cons se_int sa_nil rfl)) sa_nil rfl) rfl) rfl)) sa_nil rfl) rfl) (by decide) rfl rfl) (fun _ => rfl)))))) (sss_cons (ss_ret se_bl)
    sss_nil) sss_nil)
    (sss_cons (ss_set nd__law_right rfl (.inl rfl) (se_lst (sa_cons (se_tup (sa_cons se_str (sa_cons (se_tup (sa_cons se_int (sa_cons (se_tup sa_nil) sa_nil rfl) rfl)) sa_nil rfl) rfl)) sa_nil rfl)) rfl (.inr rfl))
    (sss_cons (ss_for PassesOwn.never rfl (si_any (se_comp (own := [("turn", 15)]) rfl nd__law_right (si_range1 rfl T.n_range se_int rfl) (blkOk_by rfl) (fun _ _ _ _ _ => (sg_name nd__law_right rfl (.inl rfl) (.inr rfl))) (fun _ _ _ _ _ => sts_nil) (fun _ _ _ _ _ => (se_call (ok__law_pick T) runF_len (hr.mono (by omega)) rfl T.m__law_pick T.F__law_pick.kp (bd__law_pick T) (sa_cons (se_var rfl (.inr (.inl rfl)) (by decide) (by decide)) (sa_cons (se_var rfl (.inr (.inl rfl)) (by decide) (by decide)) sa_nil rfl) rfl) (by decide) rfl rfl)) (by decide) (fun _ => rfl))) (sg_name nd__law_right rfl (.inl rfl) (.inr rfl)) (sss_cons (ss_set nd__law_right rfl (.inl rfl) (se_sl (se_ix (Room_u1 hr) (fun _ _ => rfl) (se_var rfl (.inl rfl) (by decide) (by decide)) se_int) so_none (so_some (se_call (ok__law_take T) runF_len (hr.mono (by omega)) rfl T.m__law_take T.F__law_take.kp (bd__law_take T) (sa_cons (se_var rfl (.inr (.inl rfl)) (by decide) (by decide)) (sa_cons (se_op op_addA sAdd (b_len rfl T.n_len (se_ix (Room_u1 hr) (fun _ _ => rfl) (se_var rfl (.inl rfl) (by decide) (by decide)) se_int) rfl) se_int) sa_nil rfl) rfl) (by decide) rfl rfl))) rfl (.inr rfl))
    (sss_cons (ss_expr (se_meth m_append (se_var rfl (.inl rfl) (by decide) (by decide)) (sa_cons (se_tup (sa_cons (se_var rfl (.inl rfl) (by decide) (by decide)) (sa_cons (se_call (ok__law_behind T) runF_len (hr.mono (by omega)) rfl T.m__law_behind T.F__law_behind.kp (bd__law_behind T) (sa_cons (se_var rfl (.inl rfl) (by decide) (by decide)) (sa_cons (se_var rfl (.inl rfl) (by decide) (by decide)) sa_nil rfl) rfl) (by decide) rfl rfl) sa_nil rfl) rfl)) sa_nil rfl) rfl rfl rfl rfl rfl) rfl)
    (sss_cons (ss_set nd__law_right rfl (.inl rfl) (se_op op_addA sAdd (se_var rfl (.inl rfl) (by decide) (by decide)) (se_ix (Room_u1 hr) (fun _ _ => rfl) se_str (se_call (ok__law_take T) runF_len (hr.mono (by omega)) rfl T.m__law_take T.F__law_take.kp (bd__law_take T) (sa_cons (se_var rfl (.inr (.inl rfl)) (by decide) (by decide)) (sa_cons (se_ix (Room_u1 hr) (fun _ _ => rfl) (se_var rfl (.inl rfl) (by decide) (by decide)) se_int) sa_nil rfl) rfl) (by decide) rfl rfl))) rfl (.inr rfl))
    (sss_cons (ss_expr (se_meth m_append (se_var rfl (.inl rfl) (by decide) (by decide)) (sa_cons (se_tup (sa_cons (se_var rfl (.inl rfl) (by decide) (by decide)) (sa_cons (se_call (ok__law_behind T) runF_len (hr.mono (by omega)) rfl T.m__law_behind T.F__law_behind.kp (bd__law_behind T) (sa_cons (se_var rfl (.inl rfl) (by decide) (by decide)) (sa_cons (se_var rfl (.inl rfl) (by decide) (by decide)) sa_nil rfl) rfl) (by decide) rfl rfl) sa_nil rfl) rfl)) sa_nil rfl) rfl rfl rfl rfl rfl) rfl)
    sss_nil)))) (fun _ => rfl))
    (sss_cons (ss_for PassesOwn.never rfl (si_any (se_var rfl (.inl rfl) (by decide) (by decide))) (sg_name nd__law_right rfl (.inl rfl) (.inr rfl)) (sss_cons (ss_setLc' (own := [("turn", 15)]) rfl nd__law_right (si_range1 rfl T.n_range (se_call (ok__law_take T) runF_len (hr.mono (by omega)) rfl T.m__law_take T.F__law_take.kp (bd__law_take T) (sa_cons (se_var rfl (.inr (.inl rfl)) (by decide) (by decide)) (sa_cons se_int sa_nil rfl) rfl) (by decide) rfl rfl) rfl) (blkOk_by rfl) (fun _ _ _ _ _ => (sg_name nd__law_right rfl (.inl rfl) (.inr rfl))) (fun _ _ _ _ _ => sts_nil) (fun _ _ _ _ _ => (se_call (ok__law_pick T) runF_len (hr.mono (by omega)) rfl T.m__law_pick T.F__law_pick.kp (bd__law_pick T) (sa_cons (se_var rfl (.inr (.inl rfl)) (by decide) (by decide)) (sa_cons (se_var rfl (.inr (.inl rfl)) (by decide) (by decide)) sa_nil rfl) rfl) (by decide) rfl rfl)) (by decide) (fun _ => rfl) rfl rfl rfl)
    (sss_cons (ss_if (st_not (st_truth (se_call (ok__law_text_right T) runF_len (hr.mono (by omega)) rfl T.m__law_text_right T.F__law_text_right.kp (bd__law_text_right T) (sa_cons (se_var rfl (.inl rfl) (by decide) (by decide)) (sa_cons (se_var rfl (.inl rfl) (by decide) (by decide)) (sa_cons (se_var rfl (.inl rfl) (by decide) (by decide)) (sa_cons (se_var rfl (.inl rfl) (by decide) (by decide)) (sa_cons (se_var rfl (.inl rfl) (by decide) (by decide)) sa_nil rfl) rfl) rfl) rfl) rfl) (by decide) rfl rfl) (fun _ => rfl))) (sss_cons (ss_ret se_bl)
    sss_nil) sss_nil)
    (sss_cons (ss_set nd__law_right rfl (.inl rfl) (se_not (se_var rfl (.inl rfl) (by decide) (by decide))) rfl (.inr rfl))
    sss_nil))) (fun _ => rfl))
    (sss_cons (ss_ret (se_call (ok__law_inner_right T) runF_len (hr.mono (by omega)) rfl T.m__law_inner_right T.F__law_inner_right.kp (bd__law_inner_right T) (sa_cons (se_var rfl (.inr (.inl rfl)) (by decide) (by decide)) (sa_cons (se_var rfl (.inl rfl) (by decide) (by decide)) (sa_cons (se_var rfl (.inl rfl) (by decide) (by decide)) (sa_cons (se_var rfl (.inr (.inl rfl)) (by decide) (by decide)) (sa_cons (se_var rfl (.inl rfl) (by decide) (by decide)) (sa_cons (se_var rfl (.inl rfl) (by decide) (by decide)) sa_nil rfl) rfl) rfl) rfl) rfl) rfl) (by decide) rfl rfl))
    sss_nil)))))))))
theorem ok__law_right (T : Tx K mg) : FnOk P w K mg base CX0 14 T.a__law_right T.d__law_right ["box", "plan", "reader", "order", "named"] (spF K mg 5 f__law_right) := fn_ev T.F__law_right sc__law_right (dv__law_right T)
theorem bd_law (T : Tx K mg) : Binds K T.d_law ["script"] [] := T.F_law.binds fun _ _ _ _ _ _ us hl => match us, hl with | [_], _ => rfl
theorem nd_law : N_law.Nodup := by decide +kernel
theorem sc_law : FnScope N_law ["script"] (defScope s_law) := ⟨rfl, rfl, rfl, nd_law, rfl, by decide +kernel, by decide +kernel⟩
theorem dv_law (T : Tx K mg) (cdv : Value) (A : Around) (outer : List PySem.Env) (s : Shared) (H : Hp) (E : XK) (hr : Room 14 (A.deeper (envOfC "law" (defScope s_law) s.heap.objs.size T.a_law cdv))) :
    SSs (cxOf CX0 P w K mg base N_law "law" (defScope s_law) T.a_law cdv A outer s H E).nox (defBody s_law) b_law :=
    (sss_cons (ss_for PassesOwn.never rfl (si_range1 rfl T.n_range (b_max rfl rfl T.n_max se_int (b_min rfl rfl T.n_min se_int (b_len rfl T.n_len (se_var rfl (.inl rfl) (by decide) (by decide)) rfl) rfl rfl) rfl rfl) rfl) (sg_name nd_law rfl (.inl rfl) (.inr rfl)) (sss_cons (ss_set nd_law rfl (.inl rfl) (se_call (ok__law_box T) runF_len (hr.mono (by omega)) rfl T.m__law_box T.F__law_box.kp (bd__law_box T) (sa_cons (se_call (ok__law_cell T) runF_len (hr.mono (by omega)) rfl T.m__law_cell T.F__law_cell.kp (bd__law_cell T) (sa_cons (se_var rfl (.inl rfl) (by decide) (by decide)) (sa_cons (se_var rfl (.inl rfl) (by decide) (by decide)) sa_nil rfl) rfl) (by decide) rfl rfl) sa_nil rfl) (by decide) rfl rfl) rfl (.inr rfl))
    (sss_cons (ss_asg (se_tup (sa_cons (se_cmp (op_eqD (Room_u64 hr)) sEq (nomark _) (se_call (ok__law_take T) runF_len (hr.mono (by omega)) rfl T.m__law_take T.F__law_take.kp (bd__law_take T) (sa_cons (se_var rfl (.inl rfl) (by decide) (by decide)) (sa_cons se_int sa_nil rfl) rfl) (by decide) rfl rfl) se_int) (sa_cons (se_lst sa_nil) (sa_cons (se_lst sa_nil) (sa_cons (se_lst sa_nil) sa_nil rfl) rfl) rfl) rfl)) (sg_tup rfl (sgs_cons (sg_name nd_law rfl (.inl rfl) (.inr rfl)) (sgs_cons (sg_name nd_law rfl (.inl rfl) (.inr rfl)) (sgs_cons (sg_name nd_law rfl (.inl rfl) (.inr rfl)) (sgs_cons (sg_name nd_law rfl (.inl rfl) (.inr rfl)) sgs_nil rfl) rfl) rfl) rfl) rfl rfl) rfl rfl rfl)
    (sss_cons (ss_for PassesOwn.never rfl (si_range1 rfl T.n_range se_int rfl) (sg_name nd_law rfl (.inl rfl) (.inr rfl)) (sss_cons (ss_set nd_law rfl (.inl rfl) (se_call (ok__law_pick T) runF_len (hr.mono (by omega)) rfl T.m__law_pick T.F__law_pick.kp (bd__law_pick T) (sa_cons (se_var rfl (.inl rfl) (by decide) (by decide)) (sa_cons (se_lst (sa_cons se_int (sa_cons se_int (sa_cons se_int (sa_cons se_int (sa_cons se_int (sa_cons se_int (sa_cons se_int sa_nil rfl) rfl) rfl) rfl) rfl) rfl) rfl)) sa_nil rfl) rfl) (by decide) rfl rfl) rfl (.inr rfl))
    (sss_cons (ss_set nd_law rfl (.inl rfl) (se_call (ok__law_planned T) runF_len (hr.mono (by omega)) rfl T.m__law_planned T.F__law_planned.kp (bd__law_planned T) (sa_cons (se_var rfl (.inl rfl) (by decide) (by decide)) (sa_cons (se_var rfl (.inl rfl) (by decide) (by decide)) (sa_cons (se_call (ok__law_pick T) runF_len (hr.mono (by omega)) rfl T.m__law_pick T.F__law_pick.kp (bd__law_pick T) (sa_cons (se_var rfl (.inl rfl) (by decide) (by decide)) (sa_cons (se_lst (sa_cons se_int (sa_cons se_int (sa_cons se_int (sa_cons se_int (sa_cons se_int (sa_cons se_int sa_nil rfl) rfl) rfl) rfl) rfl) rfl)) sa_nil rfl) rfl) (by decide) rfl rfl) sa_nil rfl) rfl) rfl) (by decide) rfl rfl) rfl (.inr rfl))
    (sss_cons (ss_set nd_law rfl (.inl rfl) (se_call (ok__law_order T) runF_len (hr.mono (by omega)) rfl T.m__law_order T.F__law_order.kp (bd__law_order T) (sa_cons (se_var rfl (.inl rfl) (by decide) (by decide)) (sa_cons (b_len rfl T.n_len (se_ix (Room_u1 hr) (fun _ _ => rfl) (se_var rfl (.inl rfl) (by decide) (by decide)) se_int) rfl) sa_nil rfl) rfl) (by decide) rfl rfl) rfl (.inr rfl))
    (sss_cons (ss_expr (se_meth m_append (se_var rfl (.inl rfl) (by decide) (by decide)) (sa_cons (se_var rfl (.inl rfl) (by decide) (by decide)) sa_nil rfl) rfl rfl rfl rfl rfl) rfl)
    (sss_cons (ss_expr (se_meth m_append (se_var rfl (.inl rfl) (by decide) (by decide)) (sa_cons (se_var rfl (.inl rfl) (by decide) (by decide)) sa_nil rfl) rfl rfl rfl rfl rfl) rfl)
    (sss_cons (ss_expr (se_meth m_append (se_var rfl (.inl rfl) (by decide) (by decide)) (sa_cons (se_if (st_truth (se_var rfl (.inl rfl) (by decide) (by decide)) (fun _ => rfl)) (se_makeK (ks := ["ends", "rows", "many"]) T.k_Reader (ok_Reader___init__ T) runF_len (hr.mono (by omega)) rfl T.m_Reader (kb_Reader___init___ends_rows_many T) (sk_cons (se_tup (sa_cons se_int sa_nil rfl)) (sk_cons (se_call (ok__law_rows T) runF_len (hr.mono (by omega)) rfl T.m__law_rows T.F__law_rows.kp (bd__law_rows T) (sa_cons (se_var rfl (.inl rfl) (by decide) (by decide)) (sa_cons (se_var rfl (.inl rfl) (by decide) (by decide)) sa_nil rfl) rfl) (by decide) rfl rfl) (sk_cons (se_var rfl (.inl rfl) (by decide) (by decide)) sk_nil))) rfl rfl (by decide) rfl) (se_make T.k_Reader (ok_Reader___init__ T) runF_len (hr.mono (by omega)) rfl T.m_Reader (bd_Reader___init__ T) (sa_cons (se_var rfl (.inl rfl) (by decide) (by decide)) (sa_cons (se_call (ok__law_rows T) runF_len (hr.mono (by omega)) rfl T.m__law_rows T.F__law_rows.kp (bd__law_rows T) (sa_cons (se_var rfl (.inl rfl) (by decide) (by decide)) (sa_cons (se_var rfl (.inl rfl) (by decide) (by decide)) sa_nil rfl) rfl) (by decide) rfl rfl) (sa_cons (se_tup (sa_cons se_int sa_nil rfl)) sa_nil rfl) rfl) rfl) (by decide) rfl rfl)) sa_nil rfl) rfl rfl rfl rfl rfl) rfl)
    sss_nil)))))) (fun _ => rfl))
    (sss_cons (ss_for PassesOwn.never rfl (si_any (se_lst (sa_cons se_int (sa_cons se_int (sa_cons se_int sa_nil rfl) rfl) rfl))) (sg_name nd_law rfl (.inl rfl) (.inr rfl)) (sss_cons (ss_if (st_not (st_truth (se_call (ok__law_right T) runF_len (hr.mono (by omega)) rfl T.m__law_right T.F__law_right.kp (bd__law_right T) (sa_cons (se_var rfl (.inl rfl) (by decide) (by decide)) (sa_cons (se_ix (Room_u1 hr) (fun _ _ => rfl) (se_var rfl (.inl rfl) (by decide) (by decide)) (se_var rfl (.inl rfl) (by decide) (by decide))) (sa_cons (se_ix (Room_u1 hr) (fun _ _ => rfl) (se_var rfl (.inl rfl) (by decide) (by decide)) (se_var rfl (.inl rfl) (by decide) (by decide))) (sa_cons (se_ix (Room_u1 hr) (fun _ _ => rfl) (se_var rfl (.inl rfl) (by decide) (by decide)) (se_var rfl (.inl rfl) (by decide) (by decide))) (sa_cons (se_var rfl (.inl rfl) (by decide) (by decide)) sa_nil rfl) rfl) rfl) rfl) rfl) (by decide) rfl rfl) (fun _ => rfl))) (sss_cons (ss_ret se_bl)
    sss_nil) sss_nil)
    (sss_cons (ss_set nd_law rfl (.inl rfl) (se_not (se_var rfl (.inl rfl) (by decide) (by decide))) rfl (.inr rfl))
    sss_nil)) (fun _ => rfl))
    sss_nil)))) (fun _ => rfl))
    (sss_cons (ss_ret se_bl)
    sss_nil))
theorem ok_law (T : Tx K mg) : FnOk P w K mg base CX0 15 T.a_law T.d_law ["script"] (spF K mg 1 f_law) := fn_ev T.F_law sc_law (dv_law T)
end
end K0
namespace K0
open PySem L2 PyProof.Rows Ev
local macro_rules | `(tactic| walk_at "ev") => `(tactic| simp only [sFor_eq, sSeq, sRet, sRetN, sIf, sAsg, sExpr, sNext, sPar, sPar3, sCont, sBreak, sNever, eAndM, eOrM, eNotM, eIf, eChain, eOp, eUn, eC, eV, eCall, eIsi, eIsiT, kitAnyB, eTup, eLst, eBi1, aNil, aCons, tVal, tTru, tNotM, tAndM, tOrM, asB, truB, blR, gNm, iAny, bind_ok, bind_no, force_d, force_tl, force_no, gcR_same, walk_tup, walk_tl, walk_str,
  kit_ii, kit_ib, kit_is, kit_it, kit_il, kit_ss, kit_si, kit_sb, kit_st, kit_sl, kit_tt, kit_ti, kit_tb, kit_ts, kit_tl, kit_ll, kit_li, kit_lb, kit_ls, kit_lt, kit_bb, kit_bi, kit_ni, kit_nb, kit_ns, kit_nt, kit_nl, ty_non, ty_bl, ty_int, ty_str, ty_tup,
  leD_int, geD_int, ltD_int, gtD_int, addD_int, subD_int, isD_non, isNotD_non, isD_bl, non_non, non_bl, non_int, non_str, non_tup, non_ref, eqD_int, neD_int, eqD_bl, ixd_tup, len_tup, len_tl, tuple_tl, bg0, bg1, bg2, bg3, bg4, bg5, at0, at1, at2, at3, optR_some,
  List.map_cons, List.map_nil, List.replicate, List.append_nil, List.nil_append, List.cons_append, List.length_cons, List.length_nil, Nat.reduceAdd, Nat.reduceSub, Nat.reduceEqDiff, Nat.reduceLeDiff, if_true, if_false, reduceIte, List.getElem?_cons_zero, List.getElem?_cons_succ, List.set_cons_zero, List.set_cons_succ, Option.bind, Bool.not_true, Bool.not_false, Bool.false_eq_true, beq_self_eq_true, Bool.and_true, Bool.and_false, Bool.true_and, Bool.false_and, Bool.or_true, Bool.or_false, Bool.true_or, Bool.false_or, cst0, cst1, cst2, cst3, cst4, cst5, cst6, Int.reduceLE, Int.reduceLT, Int.reduceBEq, decide_true, decide_false])
/-! the parts of texts and events -/
inductive Evt where
  | mark (n : Nat) | opn (k : Nat) | say (s : Nat) | shut
  deriving DecidableEq
/-- signs by their numbers -/
def tx (l : List Nat) : Str := ⟨(l.map (97 + ·)).toArray⟩
def Evt.D : Evt → D
  | .mark n => .tup [.str "mark", .int n]
  | .opn k => .tup [.str "open", .int k]
  | .say s => .tup [.str "say", .str (tx [s])]
  | .shut => .tup [.str "shut"]
def evsD (es : List Evt) : D := .tup (es.map Evt.D)
def modeD : Option Nat → D
  | none => .non
  | some k => .int k
theorem str_eq {a b : Str} {S : Sto} (ha : PyData.strOk a = true) (hb : PyData.strOk b = true) : eqD (.str a) (.str b) S = .ok (.d (.bl (a == b))) S := by
  have h1 : SeqAt.shaped (.str a) = true := by
    show (PyData.strOk a && _) = true
    rw [ha]; rfl
  have h2 : SeqAt.shaped (.str b) = true := by
    show (PyData.strOk b && _) = true
    rw [hb]; rfl
  show blR (if SeqAt.shaped (.str a) = true ∧ SeqAt.shaped (.str b) = true then some (PyData.eqv (.str a) (.str b)) else none) S = _
  rw [if_pos ⟨h1, h2⟩]
  rfl
theorem str_ne {a b : Str} {S : Sto} (ha : PyData.strOk a = true) (hb : PyData.strOk b = true) : neD (.str a) (.str b) S = .ok (.d (.bl (!(a == b)))) S := by
  have h1 : SeqAt.shaped (.str a) = true := by
    show (PyData.strOk a && _) = true
    rw [ha]; rfl
  have h2 : SeqAt.shaped (.str b) = true := by
    show (PyData.strOk b && _) = true
    rw [hb]; rfl
  show blR ((if SeqAt.shaped (.str a) = true ∧ SeqAt.shaped (.str b) = true then some (PyData.eqv (.str a) (.str b)) else none).map (!·)) S = _
  rw [if_pos ⟨h1, h2⟩]
  rfl
/-- the words of events: their comparisons -/
def wd : Fin 4 → Str
  | 0 => "mark" | 1 => "open" | 2 => "say" | 3 => "shut"
theorem e_mm {S : Sto} : eqD (.str "mark") (.str "mark") S = .ok (.d (.bl true)) S := str_eq (by decide +kernel) (by decide +kernel)
theorem e_mo {S : Sto} : eqD (.str "mark") (.str "open") S = .ok (.d (.bl false)) S := str_eq (by decide +kernel) (by decide +kernel)
theorem e_ms {S : Sto} : eqD (.str "mark") (.str "say") S = .ok (.d (.bl false)) S := str_eq (by decide +kernel) (by decide +kernel)
theorem e_om {S : Sto} : eqD (.str "open") (.str "mark") S = .ok (.d (.bl false)) S := str_eq (by decide +kernel) (by decide +kernel)
theorem e_oo {S : Sto} : eqD (.str "open") (.str "open") S = .ok (.d (.bl true)) S := str_eq (by decide +kernel) (by decide +kernel)
theorem e_os {S : Sto} : eqD (.str "open") (.str "say") S = .ok (.d (.bl false)) S := str_eq (by decide +kernel) (by decide +kernel)
theorem e_sm {S : Sto} : eqD (.str "say") (.str "mark") S = .ok (.d (.bl false)) S := str_eq (by decide +kernel) (by decide +kernel)
theorem e_so {S : Sto} : eqD (.str "say") (.str "open") S = .ok (.d (.bl false)) S := str_eq (by decide +kernel) (by decide +kernel)
theorem e_ss {S : Sto} : eqD (.str "say") (.str "say") S = .ok (.d (.bl true)) S := str_eq (by decide +kernel) (by decide +kernel)
theorem e_hm {S : Sto} : eqD (.str "shut") (.str "mark") S = .ok (.d (.bl false)) S := str_eq (by decide +kernel) (by decide +kernel)
theorem e_ho {S : Sto} : eqD (.str "shut") (.str "open") S = .ok (.d (.bl false)) S := str_eq (by decide +kernel) (by decide +kernel)
theorem e_hs {S : Sto} : eqD (.str "shut") (.str "say") S = .ok (.d (.bl false)) S := str_eq (by decide +kernel) (by decide +kernel)
theorem n_ss {S : Sto} : neD (.str "say") (.str "say") S = .ok (.d (.bl false)) S := str_ne (by decide +kernel) (by decide +kernel)
theorem n_hs {S : Sto} : neD (.str "shut") (.str "say") S = .ok (.d (.bl true)) S := str_ne (by decide +kernel) (by decide +kernel)

theorem is_integer_int (i : Int) (S : Sto) : f_is_integer [.int i] S = .ok (.d (.bl true)) S := by
  unfold f_is_integer b_is_integer runF
  walk_at "ev"
theorem is_between_int (i lo hi : Int) (S : Sto) : f_is_between [.int i, .int lo, .int hi] S = .ok (.d (.bl (decide (lo ≤ i) && decide (i ≤ hi)))) S := by
  unfold f_is_between b_is_between runF
  walk_at "ev"
  simp only [is_integer_int]
  walk_at "ev"
  cases h : decide (lo ≤ i) <;> walk_at "ev"
theorem is_tuple_tup (ds : List D) (n : Int) (S : Sto) : f_is_tuple [.tup ds, .int n] S = .ok (.d (.bl (((ds.length : Nat) : Int) == n))) S := by
  unfold f_is_tuple b_is_tuple runF
  walk_at "ev"
theorem is_tuple_up_to_tup (ds : List D) (lo hi : Int) (S : Sto) : f_is_tuple_up_to [.tup ds, .int lo, .int hi] S = .ok (.d (.bl (decide (lo ≤ ((ds.length : Nat) : Int)) && decide (((ds.length : Nat) : Int) ≤ hi)))) S := by
  unfold f_is_tuple_up_to b_is_tuple_up_to runF
  walk_at "ev"
  cases h : decide (lo ≤ ((ds.length : Nat) : Int)) <;> walk_at "ev"
def mb : Option Nat → List Evt → Option (Option Nat)
  | m, [] => some m
  | none, .mark _ :: r => mb none r
  | none, .opn k :: r => mb (some k) r
  | some k, .say _ :: r => mb (some k) r
  | some _, .shut :: r => mb none r
  | _, _ => none
def mbD : Option (Option Nat) → D
  | none => .tup []
  | some m => .tup [modeD m]
theorem mode_behind_turn (e : Evt) (m : Option Nat) (x : Option D) (z : Option D) (S : Sto) : forB (gNm 2) b_mode_behind_l0 e.D [some (modeD m), x, z] S = match mb m [e] with
      | some m' => .ok (.nx [some (modeD m'), x, some e.D]) S
      | none => .ok (.ret (.d (.tup []))) S := by
  unfold forB b_mode_behind_l0
  cases e <;> cases m <;> simp only [Evt.D, modeD, mb] <;> walk_at "ev" <;> simp only [e_mm, e_mo, e_ms, e_om, e_oo, e_os, e_sm, e_so, e_ss, e_hm, e_ho, e_hs, n_ss, n_hs] <;> walk_at "ev"
theorem mode_behind_loop {x : Option D} {S : Sto} : ∀ (es : List Evt) (m : Option Nat) (z : Option D), ∃ z', loopF (fun _ => True) (forB (gNm 2) b_mode_behind_l0) (es.map Evt.D) [some (modeD m), x, z] S = match mb m es with
      | some m' => .ok (.nx [some (modeD m'), x, z']) S
      | none => .ok (.ret (.d (.tup []))) S
  | [], m, z => ⟨z, lp_nil⟩
  | e :: es, m, z => by
    rw [List.map_cons, lp_cons, mode_behind_turn]
    have hs : mb m (e :: es) = (mb m [e]).bind fun m' => mb m' es := by cases e <;> cases m <;> rfl
    rw [hs]
    cases h : mb m [e] with
    | none => exact ⟨none, rfl⟩
    | some m' => exact mode_behind_loop es m' (some e.D)
theorem mode_behind_eq (m : Option Nat) (es : List Evt) (S : Sto) : f_mode_behind [modeD m, evsD es] S = .ok (.d (mbD (mb m es))) S := by
  unfold f_mode_behind b_mode_behind evsD runF
  walk_at "ev"
  obtain ⟨z', e⟩ := mode_behind_loop (x := some (.tup (es.map Evt.D))) (S := S) es m none
  rw [e]
  cases mb m es with
  | none => walk_at "ev"; rfl
  | some m' => walk_at "ev"; rfl

end K0
namespace K0
open PySem L2 PyProof.Rows Ev
local macro_rules | `(tactic| walk_at "ev") => `(tactic| simp only [sFor_eq, sSeq, sRet, sRetN, sIf, sAsg, sExpr, sNext, sPar, sPar3, sCont, sBreak, sNever, eAndM, eOrM, eNotM, eIf, eChain, eOp, eUn, eC, eV, eCall, eIsi, eIsiT, kitAnyB, eTup, eLst, eBi1, aNil, aCons, tVal, tTru, tNotM, tAndM, tOrM, asB, truB, blR, gNm, iAny, bind_ok, bind_no, force_d, force_tl, force_no, gcR_same, walk_tup, walk_tl, walk_str,
  kit_ii, kit_ib, kit_is, kit_it, kit_il, kit_ss, kit_si, kit_sb, kit_st, kit_sl, kit_tt, kit_ti, kit_tb, kit_ts, kit_tl, kit_ll, kit_li, kit_lb, kit_ls, kit_lt, kit_bb, kit_bi, kit_ni, kit_nb, kit_ns, kit_nt, kit_nl, ty_non, ty_bl, ty_int, ty_str, ty_tup,
  leD_int, geD_int, ltD_int, gtD_int, addD_int, subD_int, isD_non, isNotD_non, isD_bl, non_non, non_bl, non_int, non_str, non_tup, non_ref, eqD_int, neD_int, eqD_bl, ixd_tup, len_tup, len_tl, tuple_tl, bg0, bg1, bg2, bg3, bg4, bg5, at0, at1, at2, at3, optR_some,
  List.map_cons, List.map_nil, List.replicate, List.append_nil, List.nil_append, List.cons_append, List.length_cons, List.length_nil, Nat.reduceAdd, Nat.reduceSub, Nat.reduceEqDiff, Nat.reduceLeDiff, if_true, if_false, reduceIte, List.getElem?_cons_zero, List.getElem?_cons_succ, List.set_cons_zero, List.set_cons_succ, Option.bind, Bool.not_true, Bool.not_false, Bool.false_eq_true, beq_self_eq_true, Bool.and_true, Bool.and_false, Bool.true_and, Bool.false_and, Bool.or_true, Bool.or_false, Bool.true_or, Bool.false_or, cst0, cst1, cst2, cst3, cst4, cst5, cst6, Int.reduceLE, Int.reduceLT, Int.reduceBEq, decide_true, decide_false])
/-! texts and events that are allowed -/
theorem tx_len (l : List Nat) : (tx l).length = l.length := by
  show (l.map (97 + ·)).toArray.size = l.length
  simp
theorem tx_app (a b : List Nat) : tx a ++ tx b = tx (a ++ b) := by
  show (⟨(a.map (97 + ·)).toArray ++ (b.map (97 + ·)).toArray⟩ : Str) = ⟨((a ++ b).map (97 + ·)).toArray⟩
  simp
theorem tx_sigs (l : List Nat) : sigsOf (tx l) = l.map fun s => .str (tx [s]) := by
  show ((l.map (97 + ·)).toArray.toList).map sigOf = _
  simp [tx, sigOf, Function.comp_def]
theorem cut_alpha (m : Nat) (h : m ≤ 6) : cutS "abcdef" none (some (m : Int)) = tx (List.range m) := by
  match m, h with
  | 0, _ => decide +kernel
  | 1, _ => decide +kernel
  | 2, _ => decide +kernel
  | 3, _ => decide +kernel
  | 4, _ => decide +kernel
  | 5, _ => decide +kernel
  | 6, _ => decide +kernel
theorem sl_alpha {m : Nat} (h : m ≤ 6) {S : Sto} : slD (.str "abcdef") none (some (m : Int)) S = .ok (.d (.str (tx (List.range m)))) S := by
  show (if (Str.ofString "abcdef").length ≤ BIG then R.ok (XR.d (.str (cutS "abcdef" none (some (m : Int))))) S else .no) = _
  rw [if_pos (by decide +kernel), cut_alpha m h]
theorem in_alpha {s m : Nat} {S : Sto} : inD (.str (tx [s])) (.str (tx (List.range m))) S = .ok (.d (.bl (decide (s < m)))) S := by
  show R.ok (XR.d (.bl (decide (97 + s ∈ ((List.range m).map (97 + ·)).toArray.toList)))) S = _
  congr 4
  simp
theorem is_sign_ok {s m : Nat} (hm : m ≤ 6) (h : s < m) (S : Sto) : f_is_sign [.int m, .str (tx [s])] S = .ok (.d (.bl true)) S := by
  unfold f_is_sign b_is_sign runF
  have e1 : bLen (.d (.str (tx [s]))) S = .ok (.d (.int 1)) S := rfl
  walk_at "ev"
  simp only [e1]
  walk_at "ev"
  simp only [eSl, ePart]
  walk_at "ev"
  simp only [sl_alpha hm]
  walk_at "ev"
  simp only [in_alpha, h, decide_true]
  walk_at "ev"
theorem is_text_up_to_ok {m n : Nat} {l : List Nat} (hm : m ≤ 6) (hl : l.length ≤ n) (hn : n ≤ 400) (h : ∀ s ∈ l, s < m) (S : Sto) : f_is_text_up_to [.int m, .str (tx l), .int n] S = .ok (.d (.bl true)) S := by
  unfold f_is_text_up_to b_is_text_up_to runF
  have e1 : bLen (.d (.str (tx l))) S = .ok (.d (.int (l.length : Nat))) S := by
    rw [len_str (by rw [tx_len]; exact Nat.le_trans hl (Nat.le_trans hn (by decide))), tx_len]
  have e2 : decide ((n : Int) < ((l.length : Nat) : Int)) = false := decide_eq_false (by omega)
  have e3 : c_is_text_up_to_0 [some (.int m), some (.str (tx l)), some (.int n), none] S = .ok (.tl ((l.map fun s => D.str (tx [s])).map fun _ => .bl true)) S := by
    unfold c_is_text_up_to_0
    rw [eComp_eq]
    walk_at "ev"
    rw [tx_sigs, lc_all (f := fun _ => .bl true) True.intro _ [] (by simp; exact Nat.le_trans hl (Nat.le_trans hn (by decide))) (fun d hd => ?_)]
    · rfl
    · obtain ⟨s, hs, rfl⟩ := List.mem_map.mp hd
      refine ⟨_, rfl, ?_⟩
      simp only [wipeE]
      walk_at "ev"
      simp only [eSl, ePart]
      walk_at "ev"
      simp only [sl_alpha hm]
      walk_at "ev"
      simp only [in_alpha, h s hs, decide_true]
      walk_at "ev"
  walk_at "ev"
  simp only [e1]
  walk_at "ev"
  simp only [e2]
  walk_at "ev"
  simp only [e3]
  walk_at "ev"
  simp only [all_tl (fun _ => true)]
  walk_at "ev"
  simp
theorem is_text_ok {m : Nat} {l : List Nat} (hm : m ≤ 6) (hl : l.length ≤ 400) (h : ∀ s ∈ l, s < m) (S : Sto) : f_is_text [.int m, .str (tx l)] S = .ok (.d (.bl true)) S := by
  unfold f_is_text b_is_text runF
  walk_at "ev"
  have e := is_text_up_to_ok hm hl (Nat.le_refl 400) h S
  have e' : f_is_text_up_to [.int m, .str (tx l), .int 400] S = .ok (.d (.bl true)) S := e
  simp only [e']
  walk_at "ev"
def evOk (m : Nat) : Evt → Prop
  | .mark n => n ≤ 5
  | .opn k => k ≤ 2
  | .say s => s < m
  | .shut => True
theorem eq_shut {S : Sto} : eqD (.tup [.str "shut"]) (.kt [.str "shut"]) S = .ok (.d (.bl true)) S := by
  show blR (if SeqAt.shaped (.tuple [.str "shut"]) = true ∧ SeqAt.shaped (.tuple [.str "shut"]) = true then some (PyData.eqv (.tuple [.str "shut"]) (.tuple [.str "shut"])) else none) S = _
  rw [if_pos (by decide +kernel)]
  rw [show PyData.eqv (.tuple [.str "shut"]) (.tuple [.str "shut"]) = true from by decide +kernel]
  rfl
theorem is_event_ok {m : Nat} (hm : m ≤ 6) {e : Evt} (h : evOk m e) (S : Sto) : f_is_event [.int m, e.D] S = .ok (.d (.bl true)) S := by
  unfold f_is_event b_is_event runF
  cases e with
  | mark n =>
    have h' : n ≤ 5 := h
    have d1 : decide ((0 : Int) ≤ (n : Int)) = true := decide_eq_true (by omega)
    have d2 : decide ((n : Int) ≤ 5) = true := decide_eq_true (by omega)
    simp only [Evt.D]
    repeat first | walk_at "ev" | simp only [is_tuple_up_to_tup, e_mm, is_between_int, d1, d2]
  | opn k =>
    have h' : k ≤ 2 := h
    have d1 : decide ((0 : Int) ≤ (k : Int)) = true := decide_eq_true (by omega)
    have d2 : decide ((k : Int) ≤ 2) = true := decide_eq_true (by omega)
    simp only [Evt.D]
    repeat first | walk_at "ev" | simp only [is_tuple_up_to_tup, e_om, e_oo, is_between_int, d1, d2]
  | say s =>
    simp only [Evt.D]
    repeat first | walk_at "ev" | simp only [is_tuple_up_to_tup, e_sm, e_so, e_ss, is_sign_ok hm (show s < m from h)]
  | shut =>
    simp only [Evt.D]
    repeat first | walk_at "ev" | simp only [is_tuple_up_to_tup, eq_shut]

end K0
namespace K0
open PySem L2 PyProof.Rows Ev
local macro_rules | `(tactic| walk_at "ev") => `(tactic| simp only [sFor_eq, sSeq, sRet, sRetN, sIf, sAsg, sExpr, sNext, sPar, sPar3, sCont, sBreak, sNever, eAndM, eOrM, eNotM, eIf, eChain, eOp, eUn, eC, eV, eCall, eIsi, eIsiT, kitAnyB, eTup, eLst, eBi1, aNil, aCons, tVal, tTru, tNotM, tAndM, tOrM, asB, truB, blR, gNm, iAny, bind_ok, bind_no, force_d, force_tl, force_no, gcR_same, walk_tup, walk_tl, walk_str,
  kit_ii, kit_ib, kit_is, kit_it, kit_il, kit_ss, kit_si, kit_sb, kit_st, kit_sl, kit_tt, kit_ti, kit_tb, kit_ts, kit_tl, kit_ll, kit_li, kit_lb, kit_ls, kit_lt, kit_bb, kit_bi, kit_ni, kit_nb, kit_ns, kit_nt, kit_nl, ty_non, ty_bl, ty_int, ty_str, ty_tup,
  leD_int, geD_int, ltD_int, gtD_int, addD_int, subD_int, isD_non, isNotD_non, isD_bl, non_non, non_bl, non_int, non_str, non_tup, non_ref, eqD_int, neD_int, eqD_bl, ixd_tup, len_tup, len_tl, tuple_tl, bg0, bg1, bg2, bg3, bg4, bg5, at0, at1, at2, at3, optR_some,
  List.map_cons, List.map_nil, List.replicate, List.append_nil, List.nil_append, List.cons_append, List.length_cons, List.length_nil, Nat.reduceAdd, Nat.reduceSub, Nat.reduceEqDiff, Nat.reduceLeDiff, if_true, if_false, reduceIte, List.getElem?_cons_zero, List.getElem?_cons_succ, List.set_cons_zero, List.set_cons_succ, Option.bind, Bool.not_true, Bool.not_false, Bool.false_eq_true, beq_self_eq_true, Bool.and_true, Bool.and_false, Bool.true_and, Bool.false_and, Bool.or_true, Bool.or_false, Bool.true_or, Bool.false_or, cst0, cst1, cst2, cst3, cst4, cst5, cst6, Int.reduceLE, Int.reduceLT, Int.reduceBEq, decide_true, decide_false])
/-! rows -/
abbrev Ent := Option (Nat × List Evt)
def entD : Ent → D
  | none => .non
  | some (k, es) => .tup [.int k, evsD es]
def rowD (r : List Ent) : D := .tup (r.map entD)
def rowsD (rs : List (List Ent)) : D := .tup (rs.map rowD)
def entOk (m n : Nat) : Ent → Prop
  | none => True
  | some (k, es) => k < n ∧ es.length ≤ 2 ∧ ∀ e ∈ es, evOk m e
structure RowsOk (m : Nat) (rs : List (List Ent)) : Prop where
  m6 : m ≤ 6
  n1 : 1 ≤ rs.length
  n8 : rs.length ≤ 8
  row : ∀ r ∈ rs, r.length = m ∧ ∀ e ∈ r, entOk m rs.length e
theorem all_true {α : Type} (l : List α) : (l.all fun _ => true) = true := by simp
theorem is_entry_ok {m n : Nat} (hm : m ≤ 6) {e : Ent} (h : entOk m n e) (S : Sto) : f_is_entry [.int m, .int n, entD e] S = .ok (.d (.bl true)) S := by
  unfold f_is_entry b_is_entry runF
  match e, h with
  | none, _ =>
    simp only [entD]
    walk_at "ev"
  | some (k, es), ⟨hk, hl, he⟩ =>
    have e3 : c_is_entry_0 [some (.int m), some (.int n), some (.tup [.int k, evsD es]), none] S = .ok (.tl ((es.map Evt.D).map fun _ => .bl true)) S := by
      unfold c_is_entry_0
      rw [eComp_eq]
      unfold evsD
      walk_at "ev"
      rw [lc_all (f := fun _ => .bl true) True.intro _ [] (by simp; exact Nat.le_trans hl (by decide)) (fun d hd => ?_)]
      · rfl
      · obtain ⟨ev, hs, rfl⟩ := List.mem_map.mp hd
        refine ⟨_, rfl, ?_⟩
        simp only [wipeE]
        repeat first | walk_at "ev" | simp only [is_event_ok hm (he ev hs)]
    have d1 : decide ((0 : Int) ≤ (k : Int)) = true := decide_eq_true (by omega)
    have d2 : decide ((k : Int) ≤ (n : Int) - 1) = true := decide_eq_true (by omega)
    have d3 : decide ((0 : Int) ≤ ((es.length : Nat) : Int)) = true := decide_eq_true (by omega)
    have d4 : decide (((es.length : Nat) : Int) ≤ 2) = true := decide_eq_true (by omega)
    have t1 : f_is_tuple_up_to [evsD es, .int 0, .int 2] S = .ok (.d (.bl true)) S := by
      unfold evsD
      rw [is_tuple_up_to_tup, List.length_map, d3, d4]; rfl
    simp only [entD]
    repeat first | walk_at "ev" | simp only [is_tuple_tup, is_between_int, d1, d2, t1, e3, all_tl (fun _ => true), all_true]
theorem are_rows_ok {m : Nat} {rs : List (List Ent)} (h : RowsOk m rs) (S : Sto) : f_are_rows [.int m, rowsD rs] S = .ok (.d (.bl true)) S := by
  unfold f_are_rows b_are_rows runF
  have hn1 := h.n1
  have hn8 := h.n8
  have c0 : c_are_rows_0 [some (.int m), some (rowsD rs), none, none] S = .ok (.tl ((rs.map rowD).map fun _ => .bl true)) S := by
    unfold c_are_rows_0
    rw [eComp_eq]
    unfold rowsD
    walk_at "ev"
    rw [lc_all (f := fun _ => .bl true) True.intro _ [] (by simp; exact Nat.le_trans hn8 (by decide)) (fun d hd => ?_)]
    · rfl
    · obtain ⟨r, hs, rfl⟩ := List.mem_map.mp hd
      refine ⟨_, rfl, ?_⟩
      have e : (((r.map entD).length : Nat) : Int) == (m : Int) := by rw [List.length_map, (h.row r hs).1]; exact beq_self_eq_true _
      simp only [wipeE, rowD]
      repeat first | walk_at "ev" | simp only [is_tuple_tup, e]
  have c1 : ∀ r ∈ rs, c_are_rows_1 [some (.int m), some (rowsD rs), some (rowD r), none] S = .ok (.tl ((r.map entD).map fun _ => .bl true)) S := fun r hr => by
    unfold c_are_rows_1
    rw [eComp_eq]
    unfold rowD
    walk_at "ev"
    rw [lc_all (f := fun _ => .bl true) True.intro _ [] (by simp; rw [(h.row r hr).1]; exact Nat.le_trans h.m6 (by decide)) (fun d hd => ?_)]
    · rfl
    · obtain ⟨e, hs, rfl⟩ := List.mem_map.mp hd
      refine ⟨_, rfl, ?_⟩
      have el := is_entry_ok h.m6 ((h.row r hr).2 e hs) S
      have en : bLen (.d (rowsD rs)) S = .ok (.d (.int (rs.length : Nat))) S := by
        unfold rowsD
        rw [len_tup, List.length_map]
      simp only [wipeE]
      repeat first | walk_at "ev" | simp only [en, el]
  have c2 : c_are_rows_2 [some (.int m), some (rowsD rs), none, none] S = .ok (.tl ((rs.map rowD).map fun _ => .bl true)) S := by
    unfold c_are_rows_2
    rw [eComp_eq]
    have w : walkX (.d (rowsD rs)) S = .ok ⟨rs.map rowD, fun _ => True⟩ S := rfl
    repeat first | walk_at "ev" | simp only [w]
    rw [lc_all (f := fun _ => .bl true) True.intro _ [] (by simp; exact Nat.le_trans hn8 (by decide)) (fun d hd => ?_)]
    · rfl
    · obtain ⟨r, hs, rfl⟩ := List.mem_map.mp hd
      refine ⟨_, rfl, ?_⟩
      have c1r := c1 r hs
      simp only [wipeE]
      repeat first | walk_at "ev" | simp only [c1r, all_tl (fun _ => true), all_true]
  have d3 : decide ((1 : Int) ≤ ((rs.length : Nat) : Int)) = true := decide_eq_true (by omega)
  have d4 : decide (((rs.length : Nat) : Int) ≤ 8) = true := decide_eq_true (by omega)
  have t1 : f_is_tuple_up_to [rowsD rs, .int 1, .int 8] S = .ok (.d (.bl true)) S := by
    unfold rowsD
    rw [is_tuple_up_to_tup, List.length_map, d3, d4]; rfl
  repeat first | walk_at "ev" | simp only [t1, c0, c2, all_tl (fun _ => true), all_true]

end K0
namespace K0
open PySem L2 PyProof.Rows Ev
local macro_rules | `(tactic| walk_at "ev") => `(tactic| simp only [sFor_eq, sSeq, sRet, sRetN, sIf, sAsg, sExpr, sNext, sPar, sPar3, sCont, sBreak, sNever, eAndM, eOrM, eNotM, eIf, eChain, eOp, eUn, eC, eV, eCall, eIsi, eIsiT, kitAnyB, eTup, eLst, eBi1, aNil, aCons, tVal, tTru, tNotM, tAndM, tOrM, asB, truB, blR, gNm, iAny, bind_ok, bind_no, force_d, force_tl, force_no, gcR_same, walk_tup, walk_tl, walk_str,
  kit_ii, kit_ib, kit_is, kit_it, kit_il, kit_ss, kit_si, kit_sb, kit_st, kit_sl, kit_tt, kit_ti, kit_tb, kit_ts, kit_tl, kit_ll, kit_li, kit_lb, kit_ls, kit_lt, kit_bb, kit_bi, kit_ni, kit_nb, kit_ns, kit_nt, kit_nl, ty_non, ty_bl, ty_int, ty_str, ty_tup,
  leD_int, geD_int, ltD_int, gtD_int, addD_int, subD_int, isD_non, isNotD_non, isD_bl, non_non, non_bl, non_int, non_str, non_tup, non_ref, eqD_int, neD_int, eqD_bl, ixd_tup, len_tup, len_tl, tuple_tl, bg0, bg1, bg2, bg3, bg4, bg5, at0, at1, at2, at3, optR_some,
  List.map_cons, List.map_nil, List.replicate, List.append_nil, List.nil_append, List.cons_append, List.length_cons, List.length_nil, Nat.reduceAdd, Nat.reduceSub, Nat.reduceEqDiff, Nat.reduceLeDiff, if_true, if_false, reduceIte, List.getElem?_cons_zero, List.getElem?_cons_succ, List.set_cons_zero, List.set_cons_succ, Option.bind, Bool.not_true, Bool.not_false, Bool.false_eq_true, beq_self_eq_true, Bool.and_true, Bool.and_false, Bool.true_and, Bool.false_and, Bool.or_true, Bool.or_false, Bool.true_or, Bool.false_or, cst0, cst1, cst2, cst3, cst4, cst5, cst6, Int.reduceLE, Int.reduceLT, Int.reduceBEq, decide_true, decide_false])
/-! the states that come -/
abbrev iD (k : Nat) : D := .int (k : Int)
abbrev iL (l : List Nat) : O := .lst (l.map iD)
theorem set_snoc (S : Sto) (o o' : O) : (S ++ [o]).set S.length o' = S ++ [o'] := by
  have e := List.set_append_right (s := S) (t := [o]) S.length o' (Nat.le_refl _)
  rw [Nat.sub_self] at e
  exact e
theorem eqF_iD (a b : Nat) : eqF (iD a) (iD b) = decide (a = b) := by
  show ((a : Int) == (b : Int)) = _
  by_cases h : a = b
  · subst h; simp
  · rw [decide_eq_false h]
    exact beq_eq_false_iff_ne.mpr fun z => h (Int.ofNat.inj z)
theorem inF_iD (k : Nat) (l : List Nat) : inF (iD k) (l.map iD) = some (decide (k ∈ l)) := by
  unfold inF
  have h1 : (l.map iD).all flatD = true := by
    rw [List.all_map]; simp [Function.comp_def, flatD]
  rw [if_pos ⟨rfl, h1⟩, List.any_map]
  congr 1
  induction l with
  | nil => rfl
  | cons a l ih =>
    have h2 : (l.map iD).all flatD = true := by
      rw [List.all_map]; simp [Function.comp_def, flatD]
    rw [List.any_cons, ih h2]
    show (eqF (iD a) (iD k) || _) = _
    rw [eqF_iD]
    by_cases e : a = k
    · subst e; simp
    · rw [decide_eq_false e]
      simp [Ne.symm e]
theorem notIn_iD {k : Nat} {l : List Nat} {n : Nat} {S : Sto} (h : S[n]? = some (iL l)) : notInD (iD k) (.ref n) S = .ok (.d (.bl (!decide (k ∈ l)))) S := by
  have h1 : inB (iD k) (.ref n) S = some (decide (k ∈ l)) := by
    show (match listAt S n with | some es => (match inF (iD k) es with | some b => some b | none => inDeep (iD k) (.ref n) S) | none => (getK S n (iD k)).map Option.isSome) = _
    rw [listAt_lst h]
    show (match inF (iD k) (l.map iD) with | some b => some b | none => inDeep (iD k) (.ref n) S) = _
    rw [inF_iD]
  show blR ((inB (iD k) (.ref n) S).map (!·)) S = _
  rw [h1]; rfl
theorem append_iD {k : Nat} {l : List Nat} {n : Nat} {S : Sto} (h : S[n]? = some (iL l)) (hl : l.length < BIG) : mAppend "list" (.ref n) [iD k] S = .ok (.d .non) (S.set n (iL (l ++ [k]))) := by
  unfold mAppend withL
  rw [if_pos rfl]
  simp only [h]
  rw [if_pos (by simpa using hl)]
  congr 3
  simp
def stepE (fs : List Nat) : Ent → List Nat
  | some (k, _) => if k ∈ fs then fs else fs ++ [k]
  | none => fs
theorem stepE_len (fs : List Nat) (e : Ent) : (stepE fs e).length ≤ fs.length + 1 := by
  unfold stepE
  split
  · split
    · omega
    · simp
  · omega
theorem tyD_lst {n : Nat} {ds : List D} {S : Sto} (h : S[n]? = some (.lst ds)) : tyD (.ref n) S = some "list" := by
  unfold tyD
  simp only [h]
theorem states_turn {x : Option D} {at_ : Option D} {z : Option D} {S : Sto} {fs : List Nat} (hl : fs.length < BIG) (e : Ent) :
    forB (gNm 3) b_states_in_l0 (entD e) [x, some (.ref S.length), at_, z] (S ++ [iL fs]) = .ok (.nx [x, some (.ref S.length), at_, some (entD e)]) (S ++ [iL (stepE fs e)]) := by
  have g : (S ++ [iL fs])[S.length]? = some (iL fs) := getElem?_snoc _ _
  unfold forB b_states_in_l0
  match e with
  | none =>
    simp only [entD]
    repeat first | walk_at "ev" | rfl
  | some (k, es) =>
    have h1 : notInD (.int (k : Int)) (.ref S.length) (S ++ [iL fs]) = .ok (.d (.bl (!decide (k ∈ fs)))) (S ++ [iL fs]) := notIn_iD g
    simp only [entD]
    repeat first | walk_at "ev" | simp only [h1]
    by_cases hk : k ∈ fs
    · rw [decide_eq_true hk]
      have e1 : stepE fs (some (k, es)) = fs := if_pos hk
      rw [e1]
      repeat first | walk_at "ev" | rfl
    · rw [decide_eq_false hk]
      have e1 : stepE fs (some (k, es)) = fs ++ [k] := if_neg hk
      have h2 : mAppend "list" (.ref S.length) [.int (k : Int)] (S ++ [iL fs]) = .ok (.d .non) (S ++ [iL (fs ++ [k])]) := by
        have h0 := append_iD (k := k) g hl
        rw [set_snoc] at h0
        exact h0
      have h3 := tyD_lst g
      rw [e1]
      repeat first | walk_at "ev" | simp only [eMeth, h2, h3] | rfl
theorem states_row {x : Option D} {at_ : Option D} {S : Sto} : ∀ (r : List Ent) (z : Option D) (fs : List Nat), fs.length + r.length < BIG →
    ∃ z', loopF (fun _ => True) (forB (gNm 3) b_states_in_l0) (r.map entD) [x, some (.ref S.length), at_, z] (S ++ [iL fs]) = .ok (.nx [x, some (.ref S.length), at_, z']) (S ++ [iL (r.foldl stepE fs)])
  | [], z, fs, _ => ⟨z, lp_nil⟩
  | e :: r, z, fs, h => by
    rw [List.length_cons] at h
    rw [List.map_cons, lp_cons, states_turn (by omega)]
    have := stepE_len fs e
    exact states_row r (some (entD e)) (stepE fs e) (by omega)
theorem nodup_le : ∀ (n : Nat) (l : List Nat), l.Nodup → (∀ x ∈ l, x < n) → l.length ≤ n
  | 0, l, _, h => by
    cases l with
    | nil => exact Nat.le_refl _
    | cons a l => exact absurd (h a (List.mem_cons_self ..)) (Nat.not_lt_zero _)
  | n + 1, l, nd, h => by
    have h1 : (l.erase n).length ≤ n := nodup_le n (l.erase n) (nd.erase n) fun x hx => by
      have h2 := (nd.mem_erase_iff).mp hx
      have h3 := h x h2.2
      have h4 := h2.1
      omega
    by_cases hn : n ∈ l
    · rw [List.length_erase_of_mem hn] at h1; omega
    · rw [List.erase_of_not_mem hn] at h1; omega
/-- what is known of the states found, the first a of them looked at -/
structure Dc (rs : List (List Ent)) (fs : List Nat) (a : Nat) : Prop where
  hd : fs[0]? = some 0
  nd : fs.Nodup
  lt : ∀ k ∈ fs, k < rs.length
  src : ∀ (j k : Nat), 0 < j → fs[j]? = some k → ∃ i k0 r es, i < j ∧ fs[i]? = some k0 ∧ rs[k0]? = some r ∧ some (k, es) ∈ r
  clo : ∀ (i k : Nat), i < a → fs[i]? = some k → ∀ r, rs[k]? = some r → ∀ k' es, some (k', es) ∈ r → k' ∈ fs
theorem Dc.le {rs : List (List Ent)} {fs : List Nat} {a : Nat} (d : Dc rs fs a) : fs.length ≤ rs.length := nodup_le _ _ d.nd d.lt
theorem mem_stepE {fs : List Nat} {e : Ent} {k : Nat} (h : k ∈ fs) : k ∈ stepE fs e := by
  unfold stepE
  split
  · split
    · exact h
    · exact List.mem_append_left _ h
  · exact h
theorem mem_fold {r : List Ent} : ∀ {fs : List Nat} {k : Nat}, k ∈ fs → k ∈ r.foldl stepE fs := by
  induction r with
  | nil => exact fun h => h
  | cons e r ih => exact fun h => ih (mem_stepE h)
theorem fold_has {r : List Ent} : ∀ {fs : List Nat} {k : Nat} {es : List Evt}, some (k, es) ∈ r → k ∈ r.foldl stepE fs := by
  induction r with
  | nil => intro fs k es h; cases h
  | cons e r ih =>
    intro fs k es h
    rcases List.mem_cons.mp h with h | h
    · rw [List.foldl_cons]
      refine mem_fold ?_
      rw [← h]
      unfold stepE
      split
      · rename_i k' es' e
        cases e
        split
        · assumption
        · exact List.mem_append_right _ (List.mem_singleton.mpr rfl)
      · rename_i e; cases e
    · exact ih h
/-- one more entry of the row of the a-th state -/
theorem Dc.step {rs : List (List Ent)} {fs : List Nat} {a k0 : Nat} {r : List Ent} {e : Ent} (d : Dc rs fs a) (ha : fs[a]? = some k0) (hr : rs[k0]? = some r) (he : e ∈ r) (hk : ∀ k es, e = some (k, es) → k < rs.length) : Dc rs (stepE fs e) a ∧ (stepE fs e)[a]? = some k0 := by
  unfold stepE
  split
  · rename_i k es
    split
    · exact ⟨d, ha⟩
    · rename_i hn
      have hal := (List.getElem?_eq_some_iff.mp ha).1
      have old : ∀ {i : Nat}, i < fs.length → (fs ++ [k])[i]? = fs[i]? := fun h => List.getElem?_append_left h
      refine ⟨⟨by rw [old (by omega)]; exact d.hd, ?_, fun x hx => ?_, fun j x hj hx => ?_, fun i x hi hx r' hr' k' es' hm => ?_⟩, by rw [old hal]; exact ha⟩
      · rw [List.nodup_append]
        exact ⟨d.nd, by simp, fun x hx y hy z => by rw [List.mem_singleton.mp hy] at z; rw [z] at hx; exact hn hx⟩
      · rcases List.mem_append.mp hx with hx | hx
        · exact d.lt x hx
        · rw [List.mem_singleton.mp hx]; exact hk k es rfl
      · rcases Nat.lt_or_ge j fs.length with h | h
        · rw [old h] at hx
          obtain ⟨i, k1, r1, es1, h1, h2, h3, h4⟩ := d.src j x hj hx
          exact ⟨i, k1, r1, es1, h1, by rw [old (by omega)]; exact h2, h3, h4⟩
        · have hl := (List.getElem?_eq_some_iff.mp hx).1
          rw [List.length_append, List.length_singleton] at hl
          have ej : j = fs.length := by omega
          subst ej
          rw [getElem?_snoc] at hx
          cases hx
          exact ⟨a, k0, r, es, hal, by rw [old hal]; exact ha, hr, he⟩
      · rw [old (by omega)] at hx
        exact List.mem_append_left _ (d.clo i x hi hx r' hr' k' es' hm)
  · exact ⟨d, ha⟩
theorem Dc.row {rs : List (List Ent)} {a k0 : Nat} {r : List Ent} (hr : rs[k0]? = some r) (hk : ∀ e ∈ r, ∀ k es, e = some (k, es) → k < rs.length) : ∀ (q : List Ent) {fs : List Nat}, (∀ e ∈ q, e ∈ r) → Dc rs fs a → fs[a]? = some k0 → Dc rs (q.foldl stepE fs) a ∧ (q.foldl stepE fs)[a]? = some k0
  | [], fs, _, d, ha => ⟨d, ha⟩
  | e :: q, fs, hq, d, ha => by
    obtain ⟨d1, h1⟩ := d.step ha hr (hq e (List.mem_cons_self ..)) (hk e (hq e (List.mem_cons_self ..)))
    exact Dc.row hr hk q (fun e he => hq e (List.mem_cons_of_mem _ he)) d1 h1
theorem Dc.next {rs : List (List Ent)} {fs : List Nat} {a k0 : Nat} {r : List Ent} (d : Dc rs fs a) (ha : fs[a]? = some k0) (hr : rs[k0]? = some r) (hk : ∀ e ∈ r, ∀ k es, e = some (k, es) → k < rs.length) : Dc rs (r.foldl stepE fs) (a + 1) := by
  obtain ⟨d1, h1⟩ := Dc.row hr hk r (fun _ h => h) d ha
  refine ⟨d1.hd, d1.nd, d1.lt, d1.src, fun i k hi hx r' hr' k' es hm => ?_⟩
  rcases Nat.lt_or_ge i a with h | h
  · exact d1.clo i k h hx r' hr' k' es hm
  · have ei : i = a := by omega
    subst ei
    rw [h1] at hx; cases hx
    rw [hr] at hr'; cases hr'
    exact fold_has hm
theorem Dc.start {rs : List (List Ent)} (h : 1 ≤ rs.length) : Dc rs [0] 0 := ⟨rfl, by simp, fun k hk => by rw [List.mem_singleton.mp hk]; exact h, fun j k hj hx => by
  have hl := (List.getElem?_eq_some_iff.mp hx).1
  simp at hl
  omega, fun i k hi => absurd hi (Nat.not_lt_zero _)⟩
theorem row_lt {m : Nat} {rs : List (List Ent)} (h : RowsOk m rs) {k0 : Nat} {r : List Ent} (hr : rs[k0]? = some r) : ∀ e ∈ r, ∀ k es, e = some (k, es) → k < rs.length := fun e he k es z => by
  have := (h.row r (List.mem_of_getElem? hr)).2 e he
  rw [z] at this
  exact this.1
theorem ixL {n : Nat} {l : List Nat} {i k : Nat} {S : Sto} (h : S[n]? = some (iL l)) (hi : l[i]? = some k) : ixD (.ref n) (.int (i : Int)) S = .ok (.d (.int (k : Int))) S := by
  rw [ixd_lst h, at_nat, List.getElem?_map, hi]; rfl
theorem ixT {ds : List D} {i : Nat} {d : D} {S : Sto} (hi : ds[i]? = some d) : ixD (.tup ds) (.int (i : Int)) S = .ok (.d d) S := by
  rw [ixd_tup, at_nat, hi]; rfl
theorem states_while {m : Nat} {rs : List (List Ent)} (h : RowsOk m rs) {S : Sto} : ∀ (fuel : Nat) (fs : List Nat) (a : Nat) (z : Option D), Dc rs fs a → a ≤ fs.length → rs.length < fuel + a →
    ∃ fs' z', loopW (tVal (eOp ltD (eV 2) (eBi1 bLen (eV 1)))) b_states_in_l1 fuel [some (rowsD rs), some (.ref S.length), some (.int (a : Int)), z] (S ++ [iL fs]) = .ok (.nx [some (rowsD rs), some (.ref S.length), some (.int (fs'.length : Nat)), z']) (S ++ [iL fs']) ∧ Dc rs fs' fs'.length
  | 0, fs, a, z, d, hl, hf => by have := d.le; omega
  | fuel + 1, fs, a, z, d, hl, hf => by
    have g : (S ++ [iL fs])[S.length]? = some (iL fs) := getElem?_snoc _ _
    have ln : bLen (.d (.ref S.length)) (S ++ [iL fs]) = .ok (.d (.int (fs.length : Nat))) (S ++ [iL fs]) := by
      rw [len_lst g, List.length_map]
    unfold loopW
    rcases Nat.lt_or_ge a fs.length with hlt | hge
    · have d1 : decide ((a : Int) < ((fs.length : Nat) : Int)) = true := decide_eq_true (by omega)
      obtain ⟨k0, hk0⟩ : ∃ k0, fs[a]? = some k0 := ⟨_, List.getElem?_eq_getElem hlt⟩
      obtain ⟨r, hr⟩ : ∃ r, rs[k0]? = some r := ⟨_, List.getElem?_eq_getElem (d.lt k0 (List.mem_of_getElem? hk0))⟩
      have i1 : ixD (.ref S.length) (.int (a : Int)) (S ++ [iL fs]) = .ok (.d (.int (k0 : Int))) (S ++ [iL fs]) := ixL g hk0
      have i2 : ixD (rowsD rs) (.int (k0 : Int)) (S ++ [iL fs]) = .ok (.d (rowD r)) (S ++ [iL fs]) := ixT (by rw [List.getElem?_map, hr]; rfl)
      have w1 : walkX (.d (rowD r)) (S ++ [iL fs]) = .ok ⟨r.map entD, fun _ => True⟩ (S ++ [iL fs]) := rfl
      have hrl := (h.row r (List.mem_of_getElem? hr)).1
      have hm6 := h.m6
      have hn8 := h.n8
      have hle := d.le
      have hB : fs.length + r.length < BIG := by
        show _ < 10000000
        omega
      obtain ⟨z', el⟩ := states_row (x := some (rowsD rs)) (at_ := some (.int (a : Int))) (S := S) r z fs hB
      have dn := d.next hk0 hr (row_lt h hr)
      have hln : a + 1 ≤ (r.foldl stepE fs).length := by
        obtain ⟨_, h1⟩ := Dc.row hr (row_lt h hr) r (fun _ h => h) d hk0
        have := (List.getElem?_eq_some_iff.mp h1).1
        omega
      obtain ⟨fs', z2, e2, d2⟩ := states_while h (S := S) fuel (r.foldl stepE fs) (a + 1) z' dn hln (by omega)
      refine ⟨fs', z2, ?_, d2⟩
      rw [← e2]
      unfold b_states_in_l1
      repeat first | walk_at "ev" | simp only [ln, d1, i1, i2, w1, el, sAug, ipAddD]
      rfl
    · have d1 : decide ((a : Int) < ((fs.length : Nat) : Int)) = false := decide_eq_false (by omega)
      have ea : a = fs.length := by omega
      refine ⟨fs, z, ?_, ea ▸ d⟩
      repeat first | walk_at "ev" | simp only [ln, d1]
      rw [ea]
theorem states_in_ok {m : Nat} {rs : List (List Ent)} (h : RowsOk m rs) (S : Sto) : ∃ fs, f_states_in [rowsD rs] S = .ok (.d (.ref S.length)) (S ++ [iL fs]) ∧ Dc rs fs fs.length := by
  have hn8 := h.n8
  obtain ⟨fs, z, e, d⟩ := states_while h (S := S) TURNS [0] 0 none (Dc.start h.n1) (Nat.zero_le _) (by show _ < 1000000 + 0; omega)
  refine ⟨fs, ?_, d⟩
  have e' : loopW (tVal (eOp ltD (eV 2) (eBi1 bLen (eV 1)))) b_states_in_l1 TURNS [some (rowsD rs), some (.ref S.length), some (.int 0), none] (S ++ [.lst [.int 0]]) = .ok (.nx [some (rowsD rs), some (.ref S.length), some (.int (fs.length : Nat)), z]) (S ++ [iL fs]) := e
  have hg : gcR S (.d (.ref S.length)) (S ++ [iL fs]) = .ok (.d (.ref S.length)) (S ++ [iL fs]) := by
    unfold gcR
    rw [if_neg]
    intro hc
    have := hc.1
    simp [clX, clD] at this
  unfold f_states_in b_states_in runF
  repeat first | walk_at "ev" | simp only [sWhile, e', hg]

end K0
namespace K0
open PySem L2 PyProof.Rows Ev
local macro_rules | `(tactic| walk_at "ev") => `(tactic| simp only [sFor_eq, sSeq, sRet, sRetN, sIf, sAsg, sExpr, sNext, sPar, sPar3, sCont, sBreak, sNever, eAndM, eOrM, eNotM, eIf, eChain, eOp, eUn, eC, eV, eCall, eIsi, eIsiT, kitAnyB, eTup, eLst, eBi1, aNil, aCons, tVal, tTru, tNotM, tAndM, tOrM, asB, truB, blR, gNm, iAny, bind_ok, bind_no, force_d, force_tl, force_no, gcR_same, walk_tup, walk_tl, walk_str,
  kit_ii, kit_ib, kit_is, kit_it, kit_il, kit_ss, kit_si, kit_sb, kit_st, kit_sl, kit_tt, kit_ti, kit_tb, kit_ts, kit_tl, kit_ll, kit_li, kit_lb, kit_ls, kit_lt, kit_bb, kit_bi, kit_ni, kit_nb, kit_ns, kit_nt, kit_nl, ty_non, ty_bl, ty_int, ty_str, ty_tup,
  leD_int, geD_int, ltD_int, gtD_int, addD_int, subD_int, isD_non, isNotD_non, isD_bl, non_non, non_bl, non_int, non_str, non_tup, non_ref, eqD_int, neD_int, eqD_bl, ixd_tup, len_tup, len_tl, tuple_tl, bg0, bg1, bg2, bg3, bg4, bg5, at0, at1, at2, at3, optR_some,
  List.map_cons, List.map_nil, List.replicate, List.append_nil, List.nil_append, List.cons_append, List.length_cons, List.length_nil, Nat.reduceAdd, Nat.reduceSub, Nat.reduceEqDiff, Nat.reduceLeDiff, if_true, if_false, reduceIte, List.getElem?_cons_zero, List.getElem?_cons_succ, List.set_cons_zero, List.set_cons_succ, Option.bind, Bool.not_true, Bool.not_false, Bool.false_eq_true, beq_self_eq_true, Bool.and_true, Bool.and_false, Bool.true_and, Bool.false_and, Bool.or_true, Bool.or_false, Bool.true_or, Bool.false_or, cst0, cst1, cst2, cst3, cst4, cst5, cst6, Int.reduceLE, Int.reduceLT, Int.reduceBEq, decide_true, decide_false])
/-! the modes of the states -/
def numFrom : Nat → List D → List D
  | _, [] => []
  | j, d :: r => .tup [.int (j : Nat), d] :: numFrom (j + 1) r
theorem num_idx : ∀ (ds : List D) (j : Nat), (ds.mapIdx fun i d => D.tup [.int ((i + j : Nat) : Int), d]) = numFrom j ds
  | [], j => rfl
  | d :: ds, j => by
    rw [List.mapIdx_cons]
    show D.tup [.int ((0 + j : Nat) : Int), d] :: _ = .tup [.int (j : Nat), d] :: numFrom (j + 1) ds
    rw [Nat.zero_add, ← num_idx ds (j + 1)]
    congr 2
    funext i d
    rw [show i + 1 + j = i + (j + 1) from by omega]
theorem numL_from (ds : List D) : numL ds = numFrom 0 ds := num_idx ds 0
def kvD (md : Nat → Option Nat) (ks : List Nat) : List (D × D) := ks.map fun k => (iD k, modeD (md k))
theorem isK_iD (k a : Nat) (v : D) : isK (.inl (.inl (k : Int))) (iD a, v) = decide (a = k) := by
  show decide (some (Sum.inl (Sum.inl ((a : Nat) : Int))) = some (Sum.inl (Sum.inl ((k : Nat) : Int)) : DK)) = _
  by_cases h : a = k
  · subst h; simp
  · rw [decide_eq_false h]
    refine decide_eq_false fun z => h ?_
    have := Sum.inl.inj (Sum.inl.inj (Option.some.inj z))
    omega
theorem find_kv (md : Nat → Option Nat) (k : Nat) : ∀ ks : List Nat, findK (kvD md ks) (.inl (.inl (k : Int))) = if k ∈ ks then some (modeD (md k)) else none
  | [] => rfl
  | a :: ks => by
    have ih := find_kv md k ks
    unfold findK kvD at ih ⊢
    rw [List.map_cons, List.find?_cons, isK_iD]
    by_cases h : a = k
    · subst h
      rw [decide_eq_true rfl, if_pos (List.mem_cons_self ..)]; rfl
    · rw [decide_eq_false h]
      show Option.map _ (List.find? _ _) = _
      rw [ih]
      by_cases hk : k ∈ ks
      · rw [if_pos hk, if_pos (List.mem_cons_of_mem _ hk)]
      · rw [if_neg hk, if_neg (by simp [hk, Ne.symm h])]
theorem any_kv (md : Nat → Option Nat) (k : Nat) (ks : List Nat) : (kvD md ks).any (isK (.inl (.inl (k : Int)))) = decide (k ∈ ks) := by
  unfold kvD
  induction ks with
  | nil => rfl
  | cons a ks ih =>
    rw [List.map_cons, List.any_cons, isK_iD, ih]
    by_cases h : a = k
    · subst h; simp
    · rw [decide_eq_false h]; simp [Ne.symm h]
theorem kind_kv (md : Nat → Option Nat) (k : Nat) (ks : List Nat) : kindOk (kvD md ks) (.inl (.inl (k : Int))) = true := by
  cases ks <;> rfl
theorem ix_kv {md : Nat → Option Nat} {k n : Nat} {ks : List Nat} {S : Sto} (h : S[n]? = some (.dct (kvD md ks))) (hk : k ∈ ks) : ixD (.ref n) (.int (k : Int)) S = .ok (.d (modeD (md k))) S := by
  have h1 : Ev.listAt S n = none := by unfold Ev.listAt; rw [h]
  have h2 : getK S n (.int (k : Int)) = some (findK (kvD md ks) (.inl (.inl (k : Int)))) := by
    show (match S[n]? with | some (.dct kvs) => if kindOk kvs (.inl (.inl (k : Int))) = true then some (findK kvs (.inl (.inl (k : Int)))) else none | some (.rod kvs) => if kindOk kvs (.inl (.inl (k : Int))) = true ∧ kvs.isEmpty = false then some (findK kvs (.inl (.inl (k : Int)))) else none | _ => none) = _
    rw [h]
    show (if kindOk (kvD md ks) (.inl (.inl (k : Int))) = true then some (findK (kvD md ks) (.inl (.inl (k : Int)))) else none) = _
    rw [if_pos (kind_kv md k ks)]
  show (match Ev.listAt S n with | some ds => optR (atI ds (k : Int)) S | none => optR ((getK S n (.int (k : Int))).join) S) = _
  rw [h1, h2, find_kv, if_pos hk]
  rfl
theorem setd_kv {md : Nat → Option Nat} {k n : Nat} {ks : List Nat} {S : Sto} (h : S[n]? = some (.dct (kvD md ks))) (h0 : ks ≠ []) (hl : ks.length < BIG) :
    setdD (.ref n) (.int (k : Int)) (modeD (md k)) S = .ok (.d (modeD (md k))) (S.set n (.dct (kvD md (if k ∈ ks then ks else ks ++ [k])))) := by
  have e0 : (kvD md ks).isEmpty = false := by cases ks with | nil => exact absurd rfl h0 | cons a l => rfl
  have e1 : (kvD md ks).length < BIG := by unfold kvD; rw [List.length_map]; exact hl
  show (match S[n]? with | some (.dct kvs) => (if kindOk kvs (.inl (.inl (k : Int))) = true ∧ kvs.isEmpty = false ∧ kvs.length < BIG then (match findK kvs (.inl (.inl (k : Int))) with | some v => R.ok (XR.d v) S | none => .ok (.d (modeD (md k))) (S.set n (.dct (Ev.putK kvs (.inl (.inl (k : Int))) (.int (k : Int)) (modeD (md k)))))) else .no) | _ => .no) = _
  rw [h]
  show (if kindOk (kvD md ks) (.inl (.inl (k : Int))) = true ∧ (kvD md ks).isEmpty = false ∧ (kvD md ks).length < BIG then (match findK (kvD md ks) (.inl (.inl (k : Int))) with | some v => R.ok (XR.d v) S | none => .ok (.d (modeD (md k))) (S.set n (.dct (Ev.putK (kvD md ks) (.inl (.inl (k : Int))) (.int (k : Int)) (modeD (md k)))))) else .no) = _
  rw [if_pos ⟨kind_kv md k ks, e0, e1⟩, find_kv]
  by_cases hk : k ∈ ks
  · rw [if_pos hk, if_pos hk]
    show R.ok _ S = R.ok _ _
    congr 1
    have hn := (List.getElem?_eq_some_iff.mp h).1
    apply List.ext_getElem?
    intro i
    by_cases hi : i = n
    · subst hi; rw [List.getElem?_set_self hn, h]
    · rw [List.getElem?_set_ne (Ne.symm hi)]
  · rw [if_neg hk, if_neg hk]
    show R.ok _ _ = R.ok _ _
    congr 3
    unfold Ev.putK
    rw [any_kv, decide_eq_false hk, if_neg Bool.false_ne_true]
    unfold kvD
    rw [List.map_append]
    rfl
theorem eq_md0 {m : Option Nat} {S : Sto} : eqD (.tup [modeD m]) (.tup []) S = .ok (.d (.bl false)) S := by cases m <;> rfl
theorem ne_md {m : Option Nat} {S : Sto} : neD (modeD m) (modeD m) S = .ok (.d (.bl false)) S := by
  cases m with
  | none => rfl
  | some k =>
    show R.ok (XR.d (.bl (!(((k : Nat) : Int) == ((k : Nat) : Int))))) S = _
    rw [beq_self_eq_true]; rfl
theorem modeD_is (m : Option Nat) : (modeD m = .non ∨ ∃ k : Nat, modeD m = .int k) := by cases m with | none => exact .inl rfl | some k => exact .inr ⟨k, rfl⟩
/-- the rows fit the modes md -/
def Fits (rs : List (List Ent)) (md : Nat → Option Nat) : Prop := md 0 = none ∧ ∀ k r, rs[k]? = some r → ∀ k' es, some (k', es) ∈ r → mb (md k) es = some (md k')
theorem modes_turn {md : Nat → Option Nat} {k j n : Nat} {ks : List Nat} {x z3 z4 z5 : Option D} {S : Sto} (h : S[n]? = some (.dct (kvD md ks))) (h0 : ks ≠ []) (hl : ks.length < BIG) (hk : k ∈ ks) (e : Ent) (he : ∀ k' es, e = some (k', es) → mb (md k) es = some (md k')) :
    ∃ f z5', forB (gTp 2 (gsCons (gNm 3) (gsCons (gNm 4) gsNil))) b_modes_in_l0 (.tup [.int (j : Nat), entD e]) [x, some (.ref n), some (.int (k : Int)), z3, z4, z5] S = .ok f (S.set n (.dct (kvD md (stepE ks e)))) ∧
      (f = .nx [x, some (.ref n), some (.int (k : Int)), some (.int (j : Nat)), some (entD e), z5'] ∨ f = .ct [x, some (.ref n), some (.int (k : Int)), some (.int (j : Nat)), some (entD e), z5']) := by
  match e, he with
  | none, _ =>
    refine ⟨_, z5, ?_, .inr rfl⟩
    have hs : S.set n (.dct (kvD md (stepE ks none))) = S := by
      have hn := (List.getElem?_eq_some_iff.mp h).1
      apply List.ext_getElem?
      intro i
      by_cases hi : i = n
      · subst hi; rw [List.getElem?_set_self hn, h]; rfl
      · rw [List.getElem?_set_ne (Ne.symm hi)]
    rw [hs]
    unfold forB b_modes_in_l0
    simp only [entD]
    repeat first | walk_at "ev" | simp only [gTp, gsCons, gsNil, seqD]
  | some (k', es), he =>
    have e1 := mode_behind_eq (md k) es S
    rw [he k' es rfl] at e1
    have e1' : f_mode_behind [modeD (md k), evsD es] S = .ok (.d (.tup [modeD (md k')])) S := e1
    have e2 := ix_kv h hk
    have e3 := setd_kv (md := md) (k := k') h h0 hl
    refine ⟨_, some (.tup [modeD (md k')]), ?_, .inl rfl⟩
    show _ = R.ok _ (S.set n (.dct (kvD md (if k' ∈ ks then ks else ks ++ [k']))))
    unfold forB b_modes_in_l0
    simp only [entD]
    repeat first | walk_at "ev" | simp only [gTp, gsCons, gsNil, seqD, e1', e2, eq_md0, eSetd, h, e3, ne_md]
theorem stepE_ne {ks : List Nat} {e : Ent} (h : ks ≠ []) : stepE ks e ≠ [] := by
  unfold stepE
  split
  · split
    · exact h
    · simp
  · exact h
theorem set_at {S : Sto} {n : Nat} {o o' : O} (h : S[n]? = some o) : (S.set n o')[n]? = some o' := List.getElem?_set_self (List.getElem?_eq_some_iff.mp h).1
theorem modes_row {md : Nat → Option Nat} {k n : Nat} {x : Option D} : ∀ (r : List Ent) (j : Nat) (ks : List Nat) (z3 z4 z5 : Option D) (S : Sto), S[n]? = some (.dct (kvD md ks)) → ks ≠ [] → ks.length + r.length < BIG → k ∈ ks → (∀ k' es, some (k', es) ∈ r → mb (md k) es = some (md k')) →
    ∃ y3 y4 y5, loopF (fun _ => True) (forB (gTp 2 (gsCons (gNm 3) (gsCons (gNm 4) gsNil))) b_modes_in_l0) (numFrom j (r.map entD)) [x, some (.ref n), some (.int (k : Int)), z3, z4, z5] S = .ok (.nx [x, some (.ref n), some (.int (k : Int)), y3, y4, y5]) (S.set n (.dct (kvD md (r.foldl stepE ks))))
  | [], j, ks, z3, z4, z5, S, h, h0, hl, hk, he => by
    refine ⟨z3, z4, z5, ?_⟩
    have hs : S.set n (.dct (kvD md ks)) = S := by
      have hn := (List.getElem?_eq_some_iff.mp h).1
      apply List.ext_getElem?
      intro i
      by_cases hi : i = n
      · subst hi; rw [List.getElem?_set_self hn, h]
      · rw [List.getElem?_set_ne (Ne.symm hi)]
    rw [List.foldl_nil, hs]
    exact lp_nil
  | e :: r, j, ks, z3, z4, z5, S, h, h0, hl, hk, he => by
    rw [List.length_cons] at hl
    obtain ⟨f, z5', e1, hf⟩ := modes_turn (j := j) (x := x) (z3 := z3) (z4 := z4) (z5 := z5) h h0 (by omega) hk e (fun k' es z => he k' es (z ▸ List.mem_cons_self ..))
    have hs := stepE_len ks e
    obtain ⟨y3, y4, y5, e2⟩ := modes_row (x := x) r (j + 1) (stepE ks e) (some (.int (j : Nat))) (some (entD e)) z5' (S.set n (.dct (kvD md (stepE ks e)))) (set_at h) (stepE_ne h0) (by omega) (mem_stepE hk) (fun k' es z => he k' es (List.mem_cons_of_mem _ z))
    refine ⟨y3, y4, y5, ?_⟩
    rw [List.set_set] at e2
    rw [List.map_cons]
    show loopF _ _ (.tup [.int (j : Nat), entD e] :: numFrom (j + 1) (r.map entD)) _ _ = _
    rw [lp_cons, e1]
    rcases hf with rfl | rfl
    · exact e2
    · exact e2
theorem fold_len : ∀ (r : List Ent) (ks : List Nat), (r.foldl stepE ks).length ≤ ks.length + r.length
  | [], ks => by simp
  | e :: r, ks => by
    have h1 := fold_len r (stepE ks e)
    have h2 := stepE_len ks e
    rw [List.foldl_cons, List.length_cons]; omega
theorem fold_ne {r : List Ent} : ∀ {ks : List Nat}, ks ≠ [] → r.foldl stepE ks ≠ [] := by
  induction r with
  | nil => exact fun h => h
  | cons e r ih => exact fun h => ih (stepE_ne h)
theorem modes_states {m : Nat} {rs : List (List Ent)} {md : Nat → Option Nat} (hr : RowsOk m rs) (hf : Fits rs md) {fs : List Nat} (d : Dc rs fs fs.length) {n p : Nat} (np : p ≠ n) : ∀ (q : List Nat) (i : Nat) (ks : List Nat) (z2 z3 z4 z5 : Option D) (S : Sto), fs.drop i = q → S[n]? = some (.dct (kvD md ks)) → S[p]? = some (iL fs) → ks.length ≤ 1 + 6 * i → 0 ∈ ks →
    (∀ i' k, i' < i → fs[i']? = some k → ∀ r, rs[k]? = some r → ∀ k' es, some (k', es) ∈ r → k' ∈ ks) →
    ∃ ks' y2 y3 y4 y5, loopF (fun S' => Ev.listAt S' p = some (fs.map iD)) (forB (gNm 2) b_modes_in_l1) (q.map iD) [some (rowsD rs), some (.ref n), z2, z3, z4, z5] S = .ok (.nx [some (rowsD rs), some (.ref n), y2, y3, y4, y5]) (S.set n (.dct (kvD md ks'))) ∧ ∀ k ∈ fs, k ∈ ks'
  | [], i, ks, z2, z3, z4, z5, S, hq, hn, hp, hl, h0, inv => by
    have hi : fs.length ≤ i := by
      rcases Nat.lt_or_ge i fs.length with h | h
      · rw [List.drop_eq_getElem_cons h] at hq; cases hq
      · exact h
    refine ⟨ks, z2, z3, z4, z5, ?_, fun k hk => ?_⟩
    · have hs : S.set n (.dct (kvD md ks)) = S := by
        have hnl := (List.getElem?_eq_some_iff.mp hn).1
        apply List.ext_getElem?
        intro i
        by_cases hi : i = n
        · subst hi; rw [List.getElem?_set_self hnl, hn]
        · rw [List.getElem?_set_ne (Ne.symm hi)]
      rw [hs]
      exact lp_nilC (listAt_lst hp)
    · obtain ⟨j, hj⟩ := List.mem_iff_getElem?.mp hk
      have hjl := (List.getElem?_eq_some_iff.mp hj).1
      rcases Nat.eq_zero_or_pos j with rfl | hj0
      · rw [d.hd] at hj; cases hj; exact h0
      · obtain ⟨i', k0, r, es, h1, h2, h3, h4⟩ := d.src j k hj0 hj
        exact inv i' k0 (by omega) h2 r h3 k es h4
  | k :: q, i, ks, z2, z3, z4, z5, S, hq, hn, hp, hl, h0, inv => by
    obtain ⟨hk, hq2, hil⟩ := drop_next hq
    have hkl := d.lt k (List.mem_of_getElem? hk)
    obtain ⟨r, hrr⟩ : ∃ r, rs[k]? = some r := ⟨_, List.getElem?_eq_getElem hkl⟩
    have hkk : k ∈ ks := by
      rcases Nat.eq_zero_or_pos i with rfl | hj0
      · rw [d.hd] at hk; cases hk; exact h0
      · obtain ⟨i', k0, r, es, h1, h2, h3, h4⟩ := d.src i k hj0 hk
        exact inv i' k0 h1 h2 r h3 k es h4
    have hrl := (hr.row r (List.mem_of_getElem? hrr)).1
    have hm6 := hr.m6
    have hn8 := hr.n8
    have hfl := d.le
    have hB : ks.length + r.length < BIG := by show _ < 10000000; omega
    have hks : ks ≠ [] := fun z => by rw [z] at h0; cases h0
    obtain ⟨y3, y4, y5, e1⟩ := modes_row (x := some (rowsD rs)) r 0 ks z3 z4 z5 S hn hks hB hkk (fun k' es z => hf.2 k r hrr k' es z)
    have i1 : ixD (rowsD rs) (.int (k : Int)) S = .ok (.d (rowD r)) S := ixT (by rw [List.getElem?_map, hrr]; rfl)
    have w1 : walkX (.d (rowD r)) S = .ok ⟨r.map entD, fun _ => True⟩ S := rfl
    have fl := fold_len r ks
    obtain ⟨ks', a2, a3, a4, a5, e2, fin⟩ := modes_states hr hf d np q (i + 1) (r.foldl stepE ks) (some (iD k)) y3 y4 y5 (S.set n (.dct (kvD md (r.foldl stepE ks)))) hq2 (set_at hn) (by rw [List.getElem?_set_ne (Ne.symm np)]; exact hp) (by omega) (mem_fold h0) (fun i' k' hi' hk' r' hr' k2 es hm => by
      rcases Nat.lt_or_ge i' i with h | h
      · exact mem_fold (inv i' k' h hk' r' hr' k2 es hm)
      · have : i' = i := by omega
        subst this
        rw [hk] at hk'; cases hk'
        rw [hrr] at hr'; cases hr'
        exact fold_has hm)
    refine ⟨ks', a2, a3, a4, a5, ?_, fin⟩
    rw [List.set_set] at e2
    rw [List.map_cons, lp_consC (listAt_lst hp), ← e2]
    unfold forB b_modes_in_l1
    repeat first | walk_at "ev" | simp only [iEnumM, i1, w1, enumW, numL_from, e1]
theorem cl_md (n : Nat) (md : Nat → Option Nat) : ∀ l : List Nat, clDs n (l.map fun k => modeD (md k)) = true
  | [] => by rw [List.map_nil]; unfold clDs; rfl
  | a :: l => by
    rw [List.map_cons]
    unfold clDs
    rw [cl_md n md l]
    cases md a <;> simp [modeD, clD]
theorem range1_int {mm : M} {s : Ev.Env} {S S1 : Sto} {j : Int} (h : mm s S = .ok (.d (.int j)) S1) (h1 : -(2 ^ 62) ≤ j) (h2 : j < 2 ^ 62) : iRange1 mm s S = .ok ⟨rangeL 0 j, fun _ => True⟩ S1 := by
  have e : force (mm s S) = .ok (.int j) S1 := by rw [h]; rfl
  unfold iRange1
  rw [e, bind_ok]
  exact if_pos ⟨h1, h2⟩
theorem rangeL_nat (n : Nat) : rangeL 0 ((n : Nat) : Int) = (List.range n).map iD := by
  unfold rangeL
  rw [Int.sub_zero, Int.toNat_natCast]
  congr 1
  funext i
  show D.int (0 + (i : Int)) = .int (i : Int)
  rw [Int.zero_add]
theorem range1_nat {mm : M} {s : Ev.Env} {S S1 : Sto} {n : Nat} (h : mm s S = .ok (.d (.int (n : Nat))) S1) (hn : n ≤ 1000000) : iRange1 mm s S = .ok ⟨(List.range n).map iD, fun _ => True⟩ S1 := by
  rw [range1_int h (by omega) (by omega), rangeL_nat]
theorem modes_comp {n p : Nat} {md : Nat → Option Nat} {rs : List (List Ent)} {ks : List Nat} {y2 y3 y4 y5 : Option D} {S : Sto} (hn8 : rs.length ≤ 8) (g : S[n]? = some (.dct (kvD md ks))) (all : ∀ k, k < rs.length → k ∈ ks) :
    c_modes_in_0 [some (rowsD rs), some (.ref n), y2, y3, y4, y5] S = .ok (.tl ((List.range rs.length).map fun k => modeD (md k))) S := by
  have ln : bLen (.d (rowsD rs)) S = .ok (.d (.int (rs.length : Nat))) S := by
    unfold rowsD
    rw [len_tup, List.length_map]
  unfold c_modes_in_0
  rw [eComp_eq, range1_nat (n := rs.length) (S1 := S) (by repeat first | walk_at "ev" | simp only [ln]) (Nat.le_trans hn8 (by decide)), bind_ok]
  rw [lc_all (f := fun d => match d with | .int i => modeD (md i.toNat) | _ => .non) True.intro _ [] (by rw [List.length_map, List.length_range]; exact Nat.le_trans (Nat.add_le_add_left hn8 _) (by decide)) (fun d hd => ?_)]
  · rw [bind_ok, List.map_map]
    rfl
  · obtain ⟨k, hk, rfl⟩ := List.mem_map.mp hd
    have ik := ix_kv g (all k (List.mem_range.mp hk))
    refine ⟨_, rfl, ?_⟩
    simp only [wipeE, iD]
    repeat first | walk_at "ev" | simp only [ik, Int.toNat_natCast]
theorem modes_in_ok {m : Nat} {rs : List (List Ent)} {md : Nat → Option Nat} (hr : RowsOk m rs) (hf : Fits rs md) (all : ∀ fs, Dc rs fs fs.length → ∀ k, k < rs.length → k ∈ fs) (S : Sto) :
    f_modes_in [rowsD rs] S = .ok (.d (.tup ((List.range rs.length).map fun k => modeD (md k)))) S := by
  have hn8 := hr.n8
  obtain ⟨S0, hS0⟩ : ∃ S0 : Sto, S0 = S ++ [O.dct (kvD md [0])] := ⟨_, rfl⟩
  obtain ⟨fs, e1, d⟩ := states_in_ok hr S0
  have hl0 : S0.length = S.length + 1 := by rw [hS0]; simp
  obtain ⟨S1, hS1⟩ : ∃ S1 : Sto, S1 = S0 ++ [iL fs] := ⟨_, rfl⟩
  have g0 : S1[S.length]? = some (.dct (kvD md [0])) := by
    rw [hS1, List.getElem?_append_left (by omega), hS0]
    exact getElem?_snoc _ _
  have g1 : S1[S0.length]? = some (iL fs) := by rw [hS1]; exact getElem?_snoc _ _
  obtain ⟨ks', y2, y3, y4, y5, e2, fin⟩ := modes_states hr hf d (n := S.length) (p := S0.length) (by omega) fs 0 [0] none none none none S1 rfl g0 g1 (by simp) (by simp) (fun i' k hi => absurd hi (Nat.not_lt_zero _))
  have g2 : (S1.set S.length (.dct (kvD md ks')))[S.length]? = some (.dct (kvD md ks')) := set_at g0
  have c0 := modes_comp (p := 0) (y2 := y2) (y3 := y3) (y4 := y4) (y5 := y5) hn8 g2 fun k hk => fin k (all fs d k hk)
  have hkv : kvD md [0] = [(.int 0, .non)] := by
    unfold kvD
    rw [List.map_cons, hf.1]; rfl
  have e0 : eDisp (pOf [(eC (.int 0), eC .non)]) [some (rowsD rs), none, none, none, none, none] S = .ok (.d (.ref S.length)) S0 := by
    rw [hS0, hkv]
    have em : mergeD [] [(D.int 0, D.non)] = some [(D.int 0, D.non)] := rfl
    simp only [eDisp, pOf, pCons, pNil, eC, bind_ok, force_d, List.length_cons, List.length_nil, em]
    rw [if_pos (by decide)]
  have w1 : walkX (.d (.ref S0.length)) S1 = .ok ⟨fs.map iD, fun S' => Ev.listAt S' S0.length = some (fs.map iD)⟩ S1 := walk_lst g1
  have hS2 : S1.set S.length (.dct (kvD md ks')) = S ++ [.dct (kvD md ks'), iL fs] := by
    rw [hS1, hS0, List.append_assoc]
    have := List.set_append_right (s := S) (t := [O.dct (kvD md [0])] ++ [iL fs]) S.length (O.dct (kvD md ks')) (Nat.le_refl _)
    rw [Nat.sub_self] at this
    exact this
  have hg : gcR S (.d (.tup ((List.range rs.length).map fun k => modeD (md k)))) (S1.set S.length (.dct (kvD md ks'))) = .ok (.d (.tup ((List.range rs.length).map fun k => modeD (md k)))) S := by
    rw [hS2]
    refine gcR_app ?_
    show clD S.length (.tup _) = true
    unfold clD
    exact cl_md _ _ _
  rw [← hS1] at e1
  unfold f_modes_in b_modes_in runF
  repeat first | walk_at "ev" | simp only [e0, e1, w1, e2, c0, hg]

end K0
namespace K0
open PySem L2 PyProof.Rows Ev
local macro_rules | `(tactic| walk_at "ev") => `(tactic| simp only [sFor_eq, sSeq, sRet, sRetN, sIf, sAsg, sExpr, sNext, sPar, sPar3, sCont, sBreak, sNever, eAndM, eOrM, eNotM, eIf, eChain, eOp, eUn, eC, eV, eCall, eIsi, eIsiT, kitAnyB, eTup, eLst, eBi1, aNil, aCons, tVal, tTru, tNotM, tAndM, tOrM, asB, truB, blR, gNm, iAny, bind_ok, bind_no, force_d, force_tl, force_no, gcR_same, walk_tup, walk_tl, walk_str,
  kit_ii, kit_ib, kit_is, kit_it, kit_il, kit_ss, kit_si, kit_sb, kit_st, kit_sl, kit_tt, kit_ti, kit_tb, kit_ts, kit_tl, kit_ll, kit_li, kit_lb, kit_ls, kit_lt, kit_bb, kit_bi, kit_ni, kit_nb, kit_ns, kit_nt, kit_nl, ty_non, ty_bl, ty_int, ty_str, ty_tup,
  leD_int, geD_int, ltD_int, gtD_int, addD_int, subD_int, isD_non, isNotD_non, isD_bl, non_non, non_bl, non_int, non_str, non_tup, non_ref, eqD_int, neD_int, eqD_bl, ixd_tup, len_tup, len_tl, tuple_tl, bg0, bg1, bg2, bg3, bg4, bg5, at0, at1, at2, at3, optR_some,
  List.map_cons, List.map_nil, List.replicate, List.append_nil, List.nil_append, List.cons_append, List.length_cons, List.length_nil, Nat.reduceAdd, Nat.reduceSub, Nat.reduceEqDiff, Nat.reduceLeDiff, if_true, if_false, reduceIte, List.getElem?_cons_zero, List.getElem?_cons_succ, List.set_cons_zero, List.set_cons_succ, Option.bind, Bool.not_true, Bool.not_false, Bool.false_eq_true, beq_self_eq_true, Bool.and_true, Bool.and_false, Bool.true_and, Bool.false_and, Bool.or_true, Bool.or_false, Bool.true_or, Bool.false_or, cst0, cst1, cst2, cst3, cst4, cst5, cst6, Int.reduceLE, Int.reduceLT, Int.reduceBEq, decide_true, decide_false])
/-! a reader is made -/
theorem is_ascending0 (S : Sto) : f_is_ascending [.tup [.int 0]] S = .ok (.d (.bl true)) S := by
  have c0 : c_is_ascending_0 [some (.tup [.int 0]), none] S = .ok (.tl []) S := by
    unfold c_is_ascending_0
    rw [eComp_eq, range1_nat (n := 0) (S1 := S) (by repeat first | walk_at "ev" | rfl) (by decide), bind_ok, lc_all (f := fun d => d) True.intro _ [] (by decide) (fun d hd => by cases hd), bind_ok]
    rfl
  have a0 : bAll (.tl []) S = .ok (.d (.bl true)) S := rfl
  unfold f_is_ascending b_is_ascending runF
  repeat first | walk_at "ev" | simp only [c0, a0]
theorem is_set0 {n : Nat} (h : 1 ≤ n) (S : Sto) : f_is_set [.tup [.int 0], .int n] S = .ok (.d (.bl true)) S := by
  have d2 : decide ((0 : Int) ≤ (n : Int) - 1) = true := decide_eq_true (by omega)
  have c0 : c_is_set_0 [some (.tup [.int 0]), some (.int n), none] S = .ok (.tl [.bl true]) S := by
    unfold c_is_set_0
    rw [eComp_eq]
    walk_at "ev"
    rw [lc_all (f := fun _ => .bl true) True.intro _ [] (by decide) (fun d hd => ?_), bind_ok]
    · rfl
    · rw [List.mem_singleton.mp hd]
      refine ⟨_, rfl, ?_⟩
      simp only [wipeE]
      repeat first | walk_at "ev" | simp only [is_between_int, d2]
  have a0 : bAll (.tl [.bl true]) S = .ok (.d (.bl true)) S := rfl
  have e1 := is_ascending0 S
  unfold f_is_set b_is_set runF
  repeat first | walk_at "ev" | simp only [c0, a0, e1]
theorem is_many_ok {m : Nat} (h2 : 2 ≤ m) (h6 : m ≤ 6) (S : Sto) : f_is_many [.int m] S = .ok (.d (.bl true)) S := by
  have d1 : decide ((2 : Int) ≤ (m : Int)) = true := decide_eq_true (by omega)
  have d2 : decide ((m : Int) ≤ 6) = true := decide_eq_true (by omega)
  unfold f_is_many b_is_many runF
  repeat first | walk_at "ev" | simp only [is_between_int, d1, d2]
theorem are_ends0 {ms : List D} (h : 1 ≤ ms.length) (h0 : ms[0]? = some .non) (S : Sto) : f_are_ends [.tup ms, .tup [.int 0]] S = .ok (.d (.bl true)) S := by
  have e1 := is_set0 h S
  have n0 : neD (.tup [.int 0]) (.tup []) S = .ok (.d (.bl true)) S := rfl
  have i0 : ixD (.tup ms) (.int 0) S = .ok (.d .non) S := ixT (i := 0) h0
  have c0 : c_are_ends_0 [some (.tup ms), some (.tup [.int 0]), none] S = .ok (.tl [.bl true]) S := by
    unfold c_are_ends_0
    rw [eComp_eq]
    walk_at "ev"
    rw [lc_all (f := fun _ => .bl true) True.intro _ [] (by decide) (fun d hd => ?_), bind_ok]
    · rfl
    · rw [List.mem_singleton.mp hd]
      refine ⟨_, rfl, ?_⟩
      have i1 : atI ms 0 = some .non := by rw [show (0 : Int) = ((0 : Nat) : Int) from rfl, at_nat]; exact h0
      simp only [wipeE]
      repeat first | walk_at "ev" | simp only [i1]
  have a0 : bAll (.tl [.bl true]) S = .ok (.d (.bl true)) S := rfl
  unfold f_are_ends b_are_ends runF
  repeat first | walk_at "ev" | simp only [e1, n0, c0, a0]
theorem n12 : ¬ (("many" : Str) = "rows") := by decide +kernel
theorem n13 : ¬ (("many" : Str) = "ends") := by decide +kernel
theorem n14 : ¬ (("many" : Str) = "_modes") := by decide +kernel
theorem n23 : ¬ (("rows" : Str) = "ends") := by decide +kernel
theorem n24 : ¬ (("rows" : Str) = "_modes") := by decide +kernel
theorem n34 : ¬ (("ends" : Str) = "_modes") := by decide +kernel
abbrev fl (m r e d : D) : List (Str × D) := [(("many" : Str), m), (("rows" : Str), r), (("ends" : Str), e), (("_modes" : Str), d)]
theorem pf1 {a : D} : putFD "many" a [] = [(("many" : Str), a)] := rfl
theorem pf2 {a b : D} : putFD "rows" b [(("many" : Str), a)] = [(("many" : Str), a), (("rows" : Str), b)] := by
  unfold putFD
  rw [if_neg n12]; rfl
theorem pf3 {a b c : D} : putFD "ends" c [(("many" : Str), a), (("rows" : Str), b)] = [(("many" : Str), a), (("rows" : Str), b), (("ends" : Str), c)] := by
  unfold putFD
  rw [if_neg n13]
  unfold putFD
  rw [if_neg n23]; rfl
theorem pf4 {a b c d : D} : putFD "_modes" d [(("many" : Str), a), (("rows" : Str), b), (("ends" : Str), c)] = fl a b c d := by
  unfold putFD
  rw [if_neg n14]
  unfold putFD
  rw [if_neg n24]
  unfold putFD
  rw [if_neg n34]; rfl
def modesD (n : Nat) (md : Nat → Option Nat) : D := .tup ((List.range n).map fun k => modeD (md k))
def readerO (m : Nat) (rs : List (List Ent)) (md : Nat → Option Nat) : O := .ins "Reader" (fl (.int m) (rowsD rs) (.tup [.int 0]) (modesD rs.length md))
theorem fldA {x : Nat} {f : Str} {mo mv : M} {s : Ev.Env} {S : Sto} {v : D} {fs : List (Str × D)} (hv : mv s S = .ok (.d v) S) (ho : mo s S = .ok (.d (.ref x)) S) (h : S[x]? = some (.ins "Reader" fs)) (hl : fs.length < 1000) : sFldA f isCls mo mv s S = .ok (.nx s) (S.set x (.ins "Reader" (putFD f v fs))) := by
  unfold sFldA
  rw [hv, force_d, bind_ok, ho, force_d, bind_ok]
  have e : setFld f isCls (.ref x) v S = .ok () (S.set x (.ins "Reader" (putFD f v fs))) := by
    unfold setFld
    simp only [h]
    rw [if_pos ⟨by decide +kernel, hl⟩]
  rw [e, bind_ok]
theorem cl_entD (n : Nat) : ∀ e : Ent, clD n (entD e) = true
  | none => by simp [entD, clD]
  | some (k, es) => by
    simp only [entD, evsD, clD, clDs, Bool.true_and, Bool.and_true]
    induction es with
    | nil => rfl
    | cons e es ih => rw [List.map_cons]; simp only [clDs, ih, Bool.and_true]; cases e <;> simp [Evt.D, clD, clDs]
theorem cl_rowD (n : Nat) (r : List Ent) : clD n (rowD r) = true := by
  unfold rowD clD
  induction r with
  | nil => rfl
  | cons e r ih => rw [List.map_cons]; simp only [clDs, cl_entD, ih, Bool.and_true]
theorem cl_rowsD (n : Nat) (rs : List (List Ent)) : clD n (rowsD rs) = true := by
  unfold rowsD clD
  induction rs with
  | nil => rfl
  | cons e r ih => rw [List.map_cons]; simp only [clDs, cl_rowD, ih, Bool.and_true]
theorem cl_modesD (n k : Nat) (md : Nat → Option Nat) : clD n (modesD k md) = true := by
  unfold modesD clD
  exact cl_md _ _ _
theorem init_ok {m : Nat} {rs : List (List Ent)} {md : Nat → Option Nat} (h2 : 2 ≤ m) (hr : RowsOk m rs) (hf : Fits rs md) (all : ∀ fs, Dc rs fs fs.length → ∀ k, k < rs.length → k ∈ fs) {x : Nat} {S : Sto} (hx : S[x]? = some (.ins "Reader" [])) :
    f_Reader___init__ [.ref x, .int m, rowsD rs, .tup [.int 0]] S = .ok (.d .non) (S.set x (readerO m rs md)) := by
  have hxl := (List.getElem?_eq_some_iff.mp hx).1
  have hn1 := hr.n1
  have e1 := is_many_ok h2 hr.m6 S
  have e2 := are_rows_ok hr S
  obtain ⟨fs, e3, d⟩ := states_in_ok hr S
  obtain ⟨S1, hS1⟩ : ∃ S1 : Sto, S1 = S ++ [iL fs] := ⟨_, rfl⟩
  rw [← hS1] at e3
  have hfl : fs.length = rs.length := Nat.le_antisymm d.le (by
    have := nodup_le
    rcases Nat.lt_or_ge fs.length rs.length with h | h
    · exfalso
      have h1 : (List.range rs.length).length ≤ fs.length := by
        have : (List.range rs.length).Subset fs := fun k hk => all fs d k (List.mem_range.mp hk)
        exact List.nodup_range.length_le_of_subset this
      rw [List.length_range] at h1
      omega
    · exact h)
  have g1 : S1[S.length]? = some (iL fs) := by rw [hS1]; exact getElem?_snoc _ _
  have ln1 : bLen (.d (.ref S.length)) S1 = .ok (.d (.int (rs.length : Nat))) S1 := by rw [len_lst g1, List.length_map, hfl]
  have ln2 : bLen (.d (rowsD rs)) S1 = .ok (.d (.int (rs.length : Nat))) S1 := by
    unfold rowsD
    rw [len_tup, List.length_map]
  have dd : decide (((rs.length : Nat) : Int) < ((rs.length : Nat) : Int)) = false := decide_eq_false (by omega)
  have e4 := modes_in_ok hr hf all S1
  have e5 : f_are_ends [modesD rs.length md, .tup [.int 0]] S1 = .ok (.d (.bl true)) S1 := are_ends0 (by simpa using hn1) (by
    rw [List.getElem?_map, List.getElem?_range hn1]
    show some (modeD (md 0)) = _
    rw [hf.1]; rfl) S1
  have hx1 : S1[x]? = some (.ins "Reader" []) := by rw [hS1, List.getElem?_append_left hxl]; exact hx
  have e4' : f_modes_in [rowsD rs] S1 = .ok (.d (modesD rs.length md)) S1 := e4
  obtain ⟨env, henv⟩ : ∃ env : Ev.Env, env = [some (.ref x), some (.int m), some (rowsD rs), some (.tup [.int 0]), some (.ref S.length), some (modesD rs.length md)] := ⟨_, rfl⟩
  have v0 : ∀ T : Sto, eV 0 env T = .ok (.d (.ref x)) T := fun T => by rw [henv]; rfl
  have v1 : ∀ T : Sto, eV 1 env T = .ok (.d (.int m)) T := fun T => by rw [henv]; rfl
  have v2 : ∀ T : Sto, eV 2 env T = .ok (.d (rowsD rs)) T := fun T => by rw [henv]; rfl
  have v3 : ∀ T : Sto, eV 3 env T = .ok (.d (.tup [.int 0])) T := fun T => by rw [henv]; rfl
  have v5 : ∀ T : Sto, eV 5 env T = .ok (.d (modesD rs.length md)) T := fun T => by rw [henv]; rfl
  have q1 := fldA (f := "many") (v1 S1) (v0 S1) hx1 (by decide)
  have q2 := fldA (f := "rows") (v2 _) (v0 _) (set_at (o' := .ins "Reader" (putFD "many" (.int m) [])) hx1) (show 1 < 1000 by decide)
  rw [pf1, pf2, List.set_set] at q2
  have q3 := fldA (f := "ends") (v3 _) (v0 _) (set_at (o' := .ins "Reader" [(("many" : Str), D.int m), (("rows" : Str), rowsD rs)]) hx1) (show 2 < 1000 by decide)
  rw [pf3, List.set_set] at q3
  have q4 := fldA (f := "_modes") (v5 _) (v0 _) (set_at (o' := .ins "Reader" [(("many" : Str), D.int m), (("rows" : Str), rowsD rs), (("ends" : Str), .tup [.int 0])]) hx1) (show 3 < 1000 by decide)
  rw [pf4, List.set_set] at q4
  rw [pf1] at q1
  have hg : gcR S (.d .non) (S1.set x (readerO m rs md)) = .ok (.d .non) (S.set x (readerO m rs md)) := by
    refine gcR_set (by simp [clX, clD]) (by rw [hS1]; simp) (set_at hx1) ?_ (fun n hn hne => ?_) hxl
    · show (fl _ _ _ _).all (fun p => clD S.length p.2) = true
      simp [fl, clD, clDs, cl_rowsD, cl_modesD]
    · rw [List.getElem?_set_ne (Ne.symm hne), hS1, List.getElem?_append_left hn]
  unfold f_Reader___init__ b_Reader___init__ runF
  repeat first | walk_at "ev" | simp only [e1, e2, e3, ln1, ln2, dd, e4', e5]
  rw [← henv]
  repeat first | simp only [q1, q2, q3, q4, bind_ok] | walk_at "ev"
  exact hg

end K0
namespace K0
open PySem L2 PyProof.Rows Ev
local macro_rules | `(tactic| walk_at "ev") => `(tactic| simp only [sFor_eq, sSeq, sRet, sRetN, sIf, sAsg, sExpr, sNext, sPar, sPar3, sCont, sBreak, sNever, eAndM, eOrM, eNotM, eIf, eChain, eOp, eUn, eC, eV, eCall, eIsi, eIsiT, kitAnyB, eTup, eLst, eBi1, aNil, aCons, tVal, tTru, tNotM, tAndM, tOrM, asB, truB, blR, gNm, iAny, bind_ok, bind_no, force_d, force_tl, force_no, gcR_same, walk_tup, walk_tl, walk_str,
  kit_ii, kit_ib, kit_is, kit_it, kit_il, kit_ss, kit_si, kit_sb, kit_st, kit_sl, kit_tt, kit_ti, kit_tb, kit_ts, kit_tl, kit_ll, kit_li, kit_lb, kit_ls, kit_lt, kit_bb, kit_bi, kit_ni, kit_nb, kit_ns, kit_nt, kit_nl, ty_non, ty_bl, ty_int, ty_str, ty_tup,
  leD_int, geD_int, ltD_int, gtD_int, addD_int, subD_int, isD_non, isNotD_non, isD_bl, non_non, non_bl, non_int, non_str, non_tup, non_ref, eqD_int, neD_int, eqD_bl, ixd_tup, len_tup, len_tl, tuple_tl, bg0, bg1, bg2, bg3, bg4, bg5, at0, at1, at2, at3, optR_some,
  List.map_cons, List.map_nil, List.replicate, List.append_nil, List.nil_append, List.cons_append, List.length_cons, List.length_nil, Nat.reduceAdd, Nat.reduceSub, Nat.reduceEqDiff, Nat.reduceLeDiff, if_true, if_false, reduceIte, List.getElem?_cons_zero, List.getElem?_cons_succ, List.set_cons_zero, List.set_cons_succ, Option.bind, Bool.not_true, Bool.not_false, Bool.false_eq_true, beq_self_eq_true, Bool.and_true, Bool.and_false, Bool.true_and, Bool.false_and, Bool.or_true, Bool.or_false, Bool.true_or, Bool.false_or, cst0, cst1, cst2, cst3, cst4, cst5, cst6, Int.reduceLE, Int.reduceLT, Int.reduceBEq, decide_true, decide_false])
/-! reading -/
theorem fld_l {x : Nat} {f : Str} {fs : List (Str × D)} {d : D} {S : Sto} (h : S[x]? = some (.ins "Reader" fs)) (hl : fs.lookup f = some d) : fldD f isCls (.ref x) S = .ok (.d d) S := by
  show (match S[x]? with | some (.ins c fs) => if isCls c = true then optR (fs.lookup f) S else .no | _ => .no) = _
  rw [h]
  show (if isCls "Reader" = true then optR (fs.lookup f) S else .no) = _
  rw [if_pos (by decide +kernel), hl]
  rfl
section
variable {m x : Nat} {rs : List (List Ent)} {md : Nat → Option Nat} {S : Sto}
theorem fld_many (h : S[x]? = some (readerO m rs md)) : fldD "many" isCls (.ref x) S = .ok (.d (.int m)) S := fld_l h rfl
theorem lk1 : (("rows" : Str) == "many") = false := by decide +kernel
theorem lk2 : (("ends" : Str) == "many") = false := by decide +kernel
theorem lk3 : (("ends" : Str) == "rows") = false := by decide +kernel
theorem lk4 : (("_modes" : Str) == "many") = false := by decide +kernel
theorem lk5 : (("_modes" : Str) == "rows") = false := by decide +kernel
theorem lk6 : (("_modes" : Str) == "ends") = false := by decide +kernel
theorem fld_rows (h : S[x]? = some (readerO m rs md)) : fldD "rows" isCls (.ref x) S = .ok (.d (rowsD rs)) S := fld_l h (by
  rw [List.lookup_cons, lk1]
  rfl)
theorem fld_ends (h : S[x]? = some (readerO m rs md)) : fldD "ends" isCls (.ref x) S = .ok (.d (.tup [.int 0])) S := fld_l h (by
  rw [List.lookup_cons, lk2]
  show List.lookup _ _ = _
  rw [List.lookup_cons, lk3]
  rfl)
theorem fld_modes (h : S[x]? = some (readerO m rs md)) : fldD "_modes" isCls (.ref x) S = .ok (.d (modesD rs.length md)) S := fld_l h (by
  rw [List.lookup_cons, lk4]
  show List.lookup _ _ = _
  rw [List.lookup_cons, lk5]
  show List.lookup _ _ = _
  rw [List.lookup_cons, lk6]
  rfl)
theorem modes_ok (h : S[x]? = some (readerO m rs md)) : f_modes [.ref x] S = .ok (.d (modesD rs.length md)) S := by
  have e := fld_modes h
  unfold f_modes b_modes runF
  repeat first | walk_at "ev" | simp only [e]
theorem check_state_ok (h : S[x]? = some (readerO m rs md)) {k : Nat} (hk : k < rs.length) : f_check_state [.ref x, .int k] S = .ok (.d .non) S := by
  have e := fld_rows h
  have d1 : decide ((0 : Int) ≤ (k : Int)) = true := decide_eq_true (by omega)
  have d2 : decide ((k : Int) ≤ ((rs.length : Nat) : Int) - 1) = true := decide_eq_true (by omega)
  have ln2 : bLen (.d (rowsD rs)) S = .ok (.d (.int (rs.length : Nat))) S := by
    unfold rowsD
    rw [len_tup, List.length_map]
  unfold f_check_state b_check_state runF
  repeat first | walk_at "ev" | simp only [e, ln2, is_between_int, d1, d2]
theorem check_text_ok (h : S[x]? = some (readerO m rs md)) (hm : m ≤ 6) {l : List Nat} (hl : l.length ≤ 400) (hs : ∀ s ∈ l, s < m) : f_check_text [.ref x, .str (tx l)] S = .ok (.d .non) S := by
  have e := fld_many h
  have e2 := is_text_ok hm hl hs S
  unfold f_check_text b_check_text runF
  repeat first | walk_at "ev" | simp only [e, e2]
theorem index_alpha {s : Nat} (h : s < 6) : mIndex "str" (.str "abcdef") [.str (tx [s])] S = .ok (.d (.int s)) S := by
  have e : Builtin.Str.occurrences "abcdef" (tx [s]) 0 (Str.length "abcdef") 1 = [s] := by
    match s, h with
    | 0, _ => decide +kernel
    | 1, _ => decide +kernel
    | 2, _ => decide +kernel
    | 3, _ => decide +kernel
    | 4, _ => decide +kernel
    | 5, _ => decide +kernel
  unfold mIndex
  rw [if_pos rfl]
  simp only [e]
theorem tyD_str {z : Str} : tyD (.str z) S = some "str" := rfl
theorem entry_for_ok (h : S[x]? = some (readerO m rs md)) {k s : Nat} {r : List Ent} {e : Ent} (hs : s < 6) (hk : rs[k]? = some r) (he : r[s]? = some e) : f_entry_for [.ref x, .int k, .str (tx [s])] S = .ok (.d (entD e)) S := by
  have e1 := fld_rows h
  have e2 : ixD (rowsD rs) (.int (k : Int)) S = .ok (.d (rowD r)) S := ixT (by rw [List.getElem?_map, hk]; rfl)
  have e3 : ixD (rowD r) (.int (s : Int)) S = .ok (.d (entD e)) S := ixT (by rw [List.getElem?_map, he]; rfl)
  have e4 := index_alpha (S := S) hs
  unfold f_entry_for b_entry_for runF
  repeat first | walk_at "ev" | simp only [e1, e2, eMeth, tyD_str, e4, e3]
end

end K0
namespace K0
open PySem L2 PyProof.Rows Ev
local macro_rules | `(tactic| walk_at "ev") => `(tactic| simp only [sFor_eq, sSeq, sRet, sRetN, sIf, sAsg, sExpr, sNext, sPar, sPar3, sCont, sBreak, sNever, eAndM, eOrM, eNotM, eIf, eChain, eOp, eUn, eC, eV, eCall, eIsi, eIsiT, kitAnyB, eTup, eLst, eBi1, aNil, aCons, tVal, tTru, tNotM, tAndM, tOrM, asB, truB, blR, gNm, iAny, bind_ok, bind_no, force_d, force_tl, force_no, gcR_same, walk_tup, walk_tl, walk_str,
  kit_ii, kit_ib, kit_is, kit_it, kit_il, kit_ss, kit_si, kit_sb, kit_st, kit_sl, kit_tt, kit_ti, kit_tb, kit_ts, kit_tl, kit_ll, kit_li, kit_lb, kit_ls, kit_lt, kit_bb, kit_bi, kit_ni, kit_nb, kit_ns, kit_nt, kit_nl, ty_non, ty_bl, ty_int, ty_str, ty_tup,
  leD_int, geD_int, ltD_int, gtD_int, addD_int, subD_int, isD_non, isNotD_non, isD_bl, non_non, non_bl, non_int, non_str, non_tup, non_ref, eqD_int, neD_int, eqD_bl, ixd_tup, len_tup, len_tl, tuple_tl, bg0, bg1, bg2, bg3, bg4, bg5, at0, at1, at2, at3, optR_some,
  List.map_cons, List.map_nil, List.replicate, List.append_nil, List.nil_append, List.cons_append, List.length_cons, List.length_nil, Nat.reduceAdd, Nat.reduceSub, Nat.reduceEqDiff, Nat.reduceLeDiff, if_true, if_false, reduceIte, List.getElem?_cons_zero, List.getElem?_cons_succ, List.set_cons_zero, List.set_cons_succ, Option.bind, Bool.not_true, Bool.not_false, Bool.false_eq_true, beq_self_eq_true, Bool.and_true, Bool.and_false, Bool.true_and, Bool.false_and, Bool.or_true, Bool.or_false, Bool.true_or, Bool.false_or, cst0, cst1, cst2, cst3, cst4, cst5, cst6, Int.reduceLE, Int.reduceLT, Int.reduceBEq, decide_true, decide_false])
def entAt (rs : List (List Ent)) (k s : Nat) : Ent := ((rs[k]?).bind fun r => r[s]?).join
def run (rs : List (List Ent)) : Nat → List Nat → Option (Nat × List Evt)
  | k, [] => some (k, [])
  | k, s :: l => match entAt rs k s with
    | some (k', es) => (run rs k' l).map fun p => (p.1, es ++ p.2)
    | none => none
theorem ent_at {m : Nat} {rs : List (List Ent)} (hr : RowsOk m rs) {k s : Nat} (hk : k < rs.length) (hs : s < m) : ∃ r, rs[k]? = some r ∧ r[s]? = some (entAt rs k s) := by
  obtain ⟨r, h⟩ : ∃ r, rs[k]? = some r := ⟨_, List.getElem?_eq_getElem hk⟩
  have hl := (hr.row r (List.mem_of_getElem? h)).1
  refine ⟨r, h, ?_⟩
  unfold entAt
  rw [h]
  show _ = some (r[s]?).join
  rw [List.getElem?_eq_getElem (by omega)]
  rfl
theorem ent_ok {m : Nat} {rs : List (List Ent)} (hr : RowsOk m rs) {k s k' : Nat} {es : List Evt} (hk : k < rs.length) (hs : s < m) (h : entAt rs k s = some (k', es)) : k' < rs.length ∧ es.length ≤ 2 ∧ ∀ e ∈ es, evOk m e := by
  obtain ⟨r, h1, h2⟩ := ent_at hr hk hs
  have := (hr.row r (List.mem_of_getElem? h1)).2 _ (List.mem_of_getElem? h2)
  rw [h] at this
  exact this
theorem extend_ev {n : Nat} {a : List Evt} {es : List Evt} {S : Sto} (h : S[n]? = some (.lst (a.map Evt.D))) (hl : a.length + es.length ≤ BIG) : mExtend "list" (.ref n) [evsD es] S = .ok (.d .non) (S.set n (.lst ((a ++ es).map Evt.D))) := by
  unfold mExtend evsD
  rw [if_pos rfl]
  simp only [withL, h]
  rw [if_pos (by simpa using hl), List.map_append]
theorem read_loop {m x : Nat} {rs : List (List Ent)} {md : Nat → Option Nat} {S : Sto} (h : S[x]? = some (readerO m rs md)) (hr : RowsOk m rs) {t : Option D} : ∀ (l : List Nat) (k : Nat) (acc : List Evt) (z4 z5 : Option D), k < rs.length → (∀ s ∈ l, s < m) → acc.length + 2 * l.length ≤ BIG →
    (∀ k' es, run rs k l = some (k', es) → ∃ y4 y5, loopF (fun _ => True) (forB (gNm 4) b_read_on_l0) (l.map fun s => D.str (tx [s])) [some (.ref x), some (.int (k : Int)), t, some (.ref S.length), z4, z5] (S ++ [.lst (acc.map Evt.D)]) = .ok (.nx [some (.ref x), some (.int (k' : Int)), t, some (.ref S.length), y4, y5]) (S ++ [.lst ((acc ++ es).map Evt.D)])) ∧
    (run rs k l = none → ∃ E, loopF (fun _ => True) (forB (gNm 4) b_read_on_l0) (l.map fun s => D.str (tx [s])) [some (.ref x), some (.int (k : Int)), t, some (.ref S.length), z4, z5] (S ++ [.lst (acc.map Evt.D)]) = .ok (.ret (.d .non)) (S ++ [E]))
  | [], k, acc, z4, z5, hk, hs, hl => by
    refine ⟨fun k' es e => ?_, fun e => by cases e⟩
    cases e
    refine ⟨z4, z5, ?_⟩
    rw [List.append_nil]
    exact lp_nil
  | s :: l, k, acc, z4, z5, hk, hs, hl => by
    have hxl := (List.getElem?_eq_some_iff.mp h).1
    have h' : (S ++ [O.lst (acc.map Evt.D)])[x]? = some (readerO m rs md) := by rw [List.getElem?_append_left hxl]; exact h
    have hsm := hs s (List.mem_cons_self ..)
    have hm6 := hr.m6
    rw [List.length_cons] at hl
    obtain ⟨r, h1, h2⟩ := ent_at hr hk hsm
    have e1 := entry_for_ok h' (by omega) h1 h2
    rw [List.map_cons, lp_cons]
    cases he : entAt rs k s with
    | none =>
      rw [he] at e1
      refine ⟨fun k' es e => ?_, fun _ => ?_⟩
      · unfold run at e
        rw [he] at e; cases e
      · refine ⟨.lst (acc.map Evt.D), ?_⟩
        unfold forB b_read_on_l0
        simp only [entD] at e1
        repeat first | walk_at "ev" | simp only [e1]
    | some p =>
      obtain ⟨k1, es⟩ := p
      rw [he] at e1
      obtain ⟨g1, g2, g3⟩ := ent_ok hr hk hsm he
      have ih := read_loop h hr (t := t) l k1 (acc ++ es) (some (.str (tx [s]))) (some (entD (some (k1, es)))) g1 (fun s hs' => hs s (List.mem_cons_of_mem _ hs')) (by rw [List.length_append]; omega)
      have ex := extend_ev (n := S.length) (a := acc) (es := es) (S := S ++ [.lst (acc.map Evt.D)]) (getElem?_snoc _ _) (by omega)
      rw [set_snoc] at ex
      have ty := tyD_lst (n := S.length) (ds := acc.map Evt.D) (S := S ++ [.lst (acc.map Evt.D)]) (getElem?_snoc _ _)
      have step : forB (gNm 4) b_read_on_l0 (.str (tx [s])) [some (.ref x), some (.int (k : Int)), t, some (.ref S.length), z4, z5] (S ++ [.lst (acc.map Evt.D)]) = .ok (.nx [some (.ref x), some (.int (k1 : Int)), t, some (.ref S.length), some (.str (tx [s])), some (entD (some (k1, es)))]) (S ++ [.lst ((acc ++ es).map Evt.D)]) := by
        unfold forB b_read_on_l0
        simp only [entD] at e1 ⊢
        repeat first | walk_at "ev" | simp only [e1, eMeth, ty, ex]
      rw [step, bind_ok]
      have er : run rs k (s :: l) = (run rs k1 l).map fun (p : Nat × List Evt) => (p.1, es ++ p.2) := by
        simp only [run, he]
      rw [er]
      refine ⟨fun k' es' e => ?_, fun e => ?_⟩
      · obtain ⟨q, hq, e⟩ := Option.map_eq_some_iff.mp e
        cases e
        obtain ⟨y4, y5, e2⟩ := ih.1 q.1 q.2 hq
        rw [List.append_assoc] at e2
        exact ⟨y4, y5, e2⟩
      · exact ih.2 (Option.map_eq_none_iff.mp e)
def runD : Option (Nat × List Evt) → D
  | none => .non
  | some (k, es) => .tup [.int k, evsD es]
theorem cl_evsD (n : Nat) (es : List Evt) : clD n (evsD es) = true := by
  unfold evsD clD
  induction es with
  | nil => rfl
  | cons e es ih => rw [List.map_cons]; simp only [clDs, ih, Bool.and_true]; cases e <;> simp [Evt.D, clD, clDs]
theorem read_on_ok {m x : Nat} {rs : List (List Ent)} {md : Nat → Option Nat} {S : Sto} (h : S[x]? = some (readerO m rs md)) (hr : RowsOk m rs) {l : List Nat} {k : Nat} (hk : k < rs.length) (hs : ∀ s ∈ l, s < m) (hl : l.length ≤ 400) : f_read_on [.ref x, .int k, .str (tx l)] S = .ok (.d (runD (run rs k l))) S := by
  have hB : ([] : List Evt).length + 2 * l.length ≤ BIG := by show 0 + 2 * l.length ≤ 10000000; omega
  have lp := read_loop h hr (t := some (.str (tx l))) l k [] none none hk hs hB
  have w : walkX (.d (.str (tx l))) (S ++ [.lst []]) = .ok ⟨l.map fun s => D.str (tx [s]), fun _ => True⟩ (S ++ [.lst []]) := by rw [walk_str, tx_sigs]
  cases hrun : run rs k l with
  | none =>
    obtain ⟨E, e⟩ := lp.2 hrun
    have e' : loopF (fun _ => True) (forB (gNm 4) b_read_on_l0) (l.map fun s => D.str (tx [s])) [some (.ref x), some (.int (k : Int)), some (.str (tx l)), some (.ref S.length), none, none] (S ++ [.lst []]) = .ok (.ret (.d .non)) (S ++ [E]) := e
    have hg : gcR S (.d .non) (S ++ [E]) = .ok (.d .non) S := gcR_app (by simp [clX, clD])
    unfold f_read_on b_read_on runF
    repeat first | simp only [tx_sigs, e', hg] | walk_at "ev"
    rfl
  | some p =>
    obtain ⟨k', es⟩ := p
    obtain ⟨y4, y5, e⟩ := lp.1 k' es hrun
    have e' : loopF (fun _ => True) (forB (gNm 4) b_read_on_l0) (l.map fun s => D.str (tx [s])) [some (.ref x), some (.int (k : Int)), some (.str (tx l)), some (.ref S.length), none, none] (S ++ [.lst []]) = .ok (.nx [some (.ref x), some (.int (k' : Int)), some (.str (tx l)), some (.ref S.length), y4, y5]) (S ++ [.lst (es.map Evt.D)]) := e
    have tl := tuple_lst (n := S.length) (ds := es.map Evt.D) (S := S ++ [.lst (es.map Evt.D)]) (getElem?_snoc _ _)
    have hg : gcR S (.d (.tup [.int (k' : Int), .tup (es.map Evt.D)])) (S ++ [.lst (es.map Evt.D)]) = .ok (.d (.tup [.int (k' : Int), .tup (es.map Evt.D)])) S := gcR_app (by
      have := cl_evsD S.length es
      unfold evsD at this
      simp [clX, clD, clDs] at this ⊢
      exact this)
    unfold f_read_on b_read_on runF
    repeat first | simp only [tx_sigs, e', hg, tl] | walk_at "ev"
    rfl

end K0
namespace K0
open PySem L2 PyProof.Rows Ev
local macro_rules | `(tactic| walk_at "ev") => `(tactic| simp only [sFor_eq, sSeq, sRet, sRetN, sIf, sAsg, sExpr, sNext, sPar, sPar3, sCont, sBreak, sNever, eAndM, eOrM, eNotM, eIf, eChain, eOp, eUn, eC, eV, eCall, eIsi, eIsiT, kitAnyB, eTup, eLst, eBi1, aNil, aCons, tVal, tTru, tNotM, tAndM, tOrM, asB, truB, blR, gNm, iAny, bind_ok, bind_no, force_d, force_tl, force_no, gcR_same, walk_tup, walk_tl, walk_str,
  kit_ii, kit_ib, kit_is, kit_it, kit_il, kit_ss, kit_si, kit_sb, kit_st, kit_sl, kit_tt, kit_ti, kit_tb, kit_ts, kit_tl, kit_ll, kit_li, kit_lb, kit_ls, kit_lt, kit_bb, kit_bi, kit_ni, kit_nb, kit_ns, kit_nt, kit_nl, ty_non, ty_bl, ty_int, ty_str, ty_tup,
  leD_int, geD_int, ltD_int, gtD_int, addD_int, subD_int, isD_non, isNotD_non, isD_bl, non_non, non_bl, non_int, non_str, non_tup, non_ref, eqD_int, neD_int, eqD_bl, ixd_tup, len_tup, len_tl, tuple_tl, bg0, bg1, bg2, bg3, bg4, bg5, at0, at1, at2, at3, optR_some,
  List.map_cons, List.map_nil, List.replicate, List.append_nil, List.nil_append, List.cons_append, List.length_cons, List.length_nil, Nat.reduceAdd, Nat.reduceSub, Nat.reduceEqDiff, Nat.reduceLeDiff, if_true, if_false, reduceIte, List.getElem?_cons_zero, List.getElem?_cons_succ, List.set_cons_zero, List.set_cons_succ, Option.bind, Bool.not_true, Bool.not_false, Bool.false_eq_true, beq_self_eq_true, Bool.and_true, Bool.and_false, Bool.true_and, Bool.false_and, Bool.or_true, Bool.or_false, Bool.true_or, Bool.false_or, cst0, cst1, cst2, cst3, cst4, cst5, cst6, Int.reduceLE, Int.reduceLT, Int.reduceBEq, decide_true, decide_false])
/-! readings of whole texts -/
section
variable {m x : Nat} {rs : List (List Ent)} {md : Nat → Option Nat} {S : Sto}
theorem read_from_ok (h : S[x]? = some (readerO m rs md)) (hr : RowsOk m rs) {l : List Nat} {k : Nat} (hk : k < rs.length) (hs : ∀ s ∈ l, s < m) (hl : l.length ≤ 400) : f_read_from [.ref x, .int k, .str (tx l)] S = .ok (.d (runD (run rs k l))) S := by
  have e1 := check_state_ok h hk
  have e2 := check_text_ok h hr.m6 hl hs
  have e3 := read_on_ok h hr hk hs hl
  unfold f_read_from b_read_from runF
  repeat first | walk_at "ev" | simp only [e1, e2, e3]
/-- the events of a text that ends in state 0 -/
def rdg (rs : List (List Ent)) (l : List Nat) : Option (List Evt) := match run rs 0 l with
  | some (0, es) => some es
  | _ => none
def rdgD : Option (List Evt) → D
  | none => .non
  | some es => evsD es
theorem in_ends {k : Nat} {S : Sto} : inD (.int (k : Int)) (.tup [.int 0]) S = .ok (.d (.bl (decide (k = 0)))) S := by
  have e := inF_iD k [0]
  show blR (inF (iD k) ([0].map iD)) S = _
  rw [e]
  show R.ok (XR.d (.bl (decide (k ∈ [0])))) S = _
  congr 4
  simp
theorem reading_of_ok (h : S[x]? = some (readerO m rs md)) (hr : RowsOk m rs) {l : List Nat} (hs : ∀ s ∈ l, s < m) (hl : l.length ≤ 400) : f_reading_of [.ref x, .str (tx l)] S = .ok (.d (rdgD (rdg rs l))) S := by
  have e3 := read_on_ok h hr (k := 0) hr.n1 hs hl
  have e3' : f_read_on [.ref x, .int 0, .str (tx l)] S = .ok (.d (runD (run rs 0 l))) S := e3
  have e4 := fld_ends h
  unfold f_reading_of b_reading_of runF rdg
  cases hrun : run rs 0 l with
  | none =>
    rw [hrun] at e3'
    simp only [runD] at e3'
    repeat first | walk_at "ev" | simp only [e3']
    rfl
  | some p =>
    obtain ⟨k, es⟩ := p
    rw [hrun] at e3'
    simp only [runD] at e3'
    cases k with
    | zero =>
      have i0 : inD (.int ((0 : Nat) : Int)) (.tup [.int 0]) S = .ok (.d (.bl (decide (0 = 0)))) S := in_ends (k := 0)
      simp only [cst0] at i0 e3'
      repeat first | walk_at "ev" | simp only [e3', e4, i0]
      rfl
    | succ k =>
      have i0 := in_ends (k := k + 1) (S := S)
      have d0 : decide (k + 1 = 0) = false := decide_eq_false (by omega)
      rw [d0] at i0
      repeat first | walk_at "ev" | simp only [e3', e4, i0]
      rfl
theorem reads_ok (h : S[x]? = some (readerO m rs md)) (hr : RowsOk m rs) {l : List Nat} (hs : ∀ s ∈ l, s < m) (hl : l.length ≤ 400) : f_reads [.ref x, .str (tx l)] S = .ok (.d (rdgD (rdg rs l))) S := by
  have e2 := check_text_ok h hr.m6 hl hs
  have e3 := reading_of_ok h hr hs hl
  unfold f_reads b_reads runF
  repeat first | walk_at "ev" | simp only [e2, e3]
end

end K0
namespace K0
open PySem L2 PyProof.Rows Ev
local macro_rules | `(tactic| walk_at "ev") => `(tactic| simp only [sFor_eq, sSeq, sRet, sRetN, sIf, sAsg, sExpr, sNext, sPar, sPar3, sCont, sBreak, sNever, eAndM, eOrM, eNotM, eIf, eChain, eOp, eUn, eC, eV, eCall, eIsi, eIsiT, kitAnyB, eTup, eLst, eBi1, aNil, aCons, tVal, tTru, tNotM, tAndM, tOrM, asB, truB, blR, gNm, iAny, bind_ok, bind_no, force_d, force_tl, force_no, gcR_same, walk_tup, walk_tl, walk_str,
  kit_ii, kit_ib, kit_is, kit_it, kit_il, kit_ss, kit_si, kit_sb, kit_st, kit_sl, kit_tt, kit_ti, kit_tb, kit_ts, kit_tl, kit_ll, kit_li, kit_lb, kit_ls, kit_lt, kit_bb, kit_bi, kit_ni, kit_nb, kit_ns, kit_nt, kit_nl, ty_non, ty_bl, ty_int, ty_str, ty_tup,
  leD_int, geD_int, ltD_int, gtD_int, addD_int, subD_int, isD_non, isNotD_non, isD_bl, non_non, non_bl, non_int, non_str, non_tup, non_ref, eqD_int, neD_int, eqD_bl, ixd_tup, len_tup, len_tl, tuple_tl, bg0, bg1, bg2, bg3, bg4, bg5, at0, at1, at2, at3, optR_some,
  List.map_cons, List.map_nil, List.replicate, List.append_nil, List.nil_append, List.cons_append, List.length_cons, List.length_nil, Nat.reduceAdd, Nat.reduceSub, Nat.reduceEqDiff, Nat.reduceLeDiff, if_true, if_false, reduceIte, List.getElem?_cons_zero, List.getElem?_cons_succ, List.set_cons_zero, List.set_cons_succ, Option.bind, Bool.not_true, Bool.not_false, Bool.false_eq_true, beq_self_eq_true, Bool.and_true, Bool.and_false, Bool.true_and, Bool.false_and, Bool.or_true, Bool.or_false, Bool.true_or, Bool.false_or, cst0, cst1, cst2, cst3, cst4, cst5, cst6, Int.reduceLE, Int.reduceLT, Int.reduceBEq, decide_true, decide_false])
/-! items -/
def fieldD (k : Option Nat) (s : List Nat) : D := .tup [.str "field", modeD k, .str (tx s)]
abbrev ItS := List D × Option Nat × List Nat
def itStep : ItS → Evt → ItS
  | (f, k, s), .mark n => (f ++ [(Evt.mark n).D], k, s)
  | (f, _, _), .opn j => (f, some j, [])
  | (f, k, s), .say c => (f, k, s ++ [c])
  | (f, k, s), .shut => (f ++ [fieldD k s], k, s)
theorem tx_nil : (Str.ofString "") = tx [] := by decide +kernel
theorem append_D {d : D} {l : List D} {n : Nat} {S : Sto} (h : S[n]? = some (.lst l)) (hl : l.length < BIG) : mAppend "list" (.ref n) [d] S = .ok (.d .non) (S.set n (.lst (l ++ [d]))) := by
  unfold mAppend withL
  rw [if_pos rfl]
  simp only [h]
  rw [if_pos hl]
theorem items_turn {x : Option D} {z : Option D} {S : Sto} {st : ItS} (hf : st.1.length < 100000) (hs : st.2.2.length < 100000) (e : Evt) :
    forB (gNm 4) b_items_in_l0 e.D [x, some (.ref S.length), some (modeD st.2.1), some (.str (tx st.2.2)), z] (S ++ [.lst st.1]) =
      .ok (.nx [x, some (.ref S.length), some (modeD (itStep st e).2.1), some (.str (tx (itStep st e).2.2)), some e.D]) (S ++ [.lst (itStep st e).1]) := by
  obtain ⟨f, k, s⟩ := st
  have g : (S ++ [O.lst f])[S.length]? = some (.lst f) := getElem?_snoc _ _
  have ty := tyD_lst g
  have ap : ∀ d : D, mAppend "list" (.ref S.length) [d] (S ++ [.lst f]) = .ok (.d .non) (S ++ [.lst (f ++ [d])]) := fun d => by
    have := append_D (d := d) g (Nat.lt_trans hf (by decide))
    rw [set_snoc] at this
    exact this
  unfold forB b_items_in_l0
  cases e with
  | mark n =>
    simp only [Evt.D, itStep]
    repeat first | walk_at "ev" | simp only [e_mm, eMeth, ty, ap]
  | opn j =>
    simp only [Evt.D, itStep]
    repeat first | walk_at "ev" | simp only [e_om, e_oo, tx_nil, modeD]
  | say c =>
    have ad : addD (.str (tx s)) (.str (tx [c])) (S ++ [.lst f]) = .ok (.d (.str (tx (s ++ [c])))) (S ++ [.lst f]) := by
      rw [addD_str (by rw [tx_len, tx_len]; show s.length + 1 ≤ 10000000; have : s.length < 100000 := hs; omega), tx_app]
    simp only [Evt.D, itStep]
    repeat first | walk_at "ev" | simp only [e_sm, e_so, e_ss, ad]
  | shut =>
    simp only [Evt.D, itStep, fieldD]
    repeat first | walk_at "ev" | simp only [e_hm, e_ho, e_hs, eMeth, ty, ap]
theorem itStep_len (st : ItS) (e : Evt) : (itStep st e).1.length ≤ st.1.length + 1 ∧ (itStep st e).2.2.length ≤ st.2.2.length + 1 := by
  obtain ⟨f, k, s⟩ := st
  cases e <;> simp [itStep]
theorem items_loop {x : Option D} {S : Sto} : ∀ (es : List Evt) (st : ItS) (z : Option D), st.1.length + es.length < 100000 → st.2.2.length + es.length < 100000 →
    ∃ z', loopF (fun _ => True) (forB (gNm 4) b_items_in_l0) (es.map Evt.D) [x, some (.ref S.length), some (modeD st.2.1), some (.str (tx st.2.2)), z] (S ++ [.lst st.1]) =
      .ok (.nx [x, some (.ref S.length), some (modeD (es.foldl itStep st).2.1), some (.str (tx (es.foldl itStep st).2.2)), z']) (S ++ [.lst (es.foldl itStep st).1])
  | [], st, z, _, _ => ⟨z, lp_nil⟩
  | e :: es, st, z, h1, h2 => by
    rw [List.length_cons] at h1 h2
    have hl := itStep_len st e
    rw [List.map_cons, lp_cons, items_turn (by omega) (by omega), bind_ok]
    exact items_loop es (itStep st e) (some e.D) (by omega) (by omega)
def itemsL (es : List Evt) : List D := (es.foldl itStep ([], none, [])).1
theorem cl_itStep (n : Nat) (st : ItS) (e : Evt) (h : clDs n st.1 = true) : clDs n (itStep st e).1 = true := by
  have ap : ∀ (l : List D) (d : D), clDs n l = true → clD n d = true → clDs n (l ++ [d]) = true := by
    intro l
    induction l with
    | nil => intro d _ h; simp [clDs, h]
    | cons a l ih =>
      intro d h1 h2
      simp only [clDs, Bool.and_eq_true, List.cons_append] at h1 ⊢
      exact ⟨h1.1, ih d h1.2 h2⟩
  obtain ⟨f, k, s⟩ := st
  cases e with
  | mark m => exact ap f _ h (by simp [Evt.D, clD, clDs])
  | opn j => exact h
  | say c => exact h
  | shut => exact ap f _ h (by cases k <;> simp [fieldD, modeD, clD, clDs])
theorem cl_items (n : Nat) (es : List Evt) : clDs n (itemsL es) = true := by
  have : ∀ (es : List Evt) (st : ItS), clDs n st.1 = true → clDs n (es.foldl itStep st).1 = true := by
    intro es
    induction es with
    | nil => exact fun st h => h
    | cons e es ih => exact fun st h => ih _ (cl_itStep n st e h)
  exact this es _ (by simp [clDs])
theorem items_in_ok {es : List Evt} (h : es.length < 100000) (S : Sto) : f_items_in [evsD es] S = .ok (.d (.tup (itemsL es))) S := by
  obtain ⟨z', e⟩ := items_loop (x := some (evsD es)) (S := S) es ([], none, []) none (by simpa using h) (by simpa using h)
  have e' : loopF (fun _ => True) (forB (gNm 4) b_items_in_l0) (es.map Evt.D) [some (evsD es), some (.ref S.length), some .non, some (.str (tx [])), none] (S ++ [.lst []]) = _ := e
  have w : walkX (.d (evsD es)) (S ++ [.lst []]) = .ok ⟨es.map Evt.D, fun _ => True⟩ (S ++ [.lst []]) := rfl
  have tl := tuple_lst (n := S.length) (ds := (es.foldl itStep ([], none, [])).1) (S := S ++ [.lst (es.foldl itStep ([], none, [])).1]) (getElem?_snoc _ _)
  have hg : gcR S (.d (.tup (es.foldl itStep ([], none, [])).1)) (S ++ [.lst (es.foldl itStep ([], none, [])).1]) = .ok (.d (.tup (es.foldl itStep ([], none, [])).1)) S := gcR_app (by
    show clD S.length (.tup _) = true
    unfold clD
    exact cl_items _ es)
  unfold f_items_in b_items_in runF
  repeat first | simp only [w, tx_nil, e', tl, hg] | walk_at "ev"
  rfl

end K0
namespace K0
open PySem L2 PyProof.Rows Ev
local macro_rules | `(tactic| walk_at "ev") => `(tactic| simp only [sFor_eq, sSeq, sRet, sRetN, sIf, sAsg, sExpr, sNext, sPar, sPar3, sCont, sBreak, sNever, eAndM, eOrM, eNotM, eIf, eChain, eOp, eUn, eC, eV, eCall, eIsi, eIsiT, kitAnyB, eTup, eLst, eBi1, aNil, aCons, tVal, tTru, tNotM, tAndM, tOrM, asB, truB, blR, gNm, iAny, bind_ok, bind_no, force_d, force_tl, force_no, gcR_same, walk_tup, walk_tl, walk_str,
  kit_ii, kit_ib, kit_is, kit_it, kit_il, kit_ss, kit_si, kit_sb, kit_st, kit_sl, kit_tt, kit_ti, kit_tb, kit_ts, kit_tl, kit_ll, kit_li, kit_lb, kit_ls, kit_lt, kit_bb, kit_bi, kit_ni, kit_nb, kit_ns, kit_nt, kit_nl, ty_non, ty_bl, ty_int, ty_str, ty_tup,
  leD_int, geD_int, ltD_int, gtD_int, addD_int, subD_int, isD_non, isNotD_non, isD_bl, non_non, non_bl, non_int, non_str, non_tup, non_ref, eqD_int, neD_int, eqD_bl, ixd_tup, len_tup, len_tl, tuple_tl, bg0, bg1, bg2, bg3, bg4, bg5, at0, at1, at2, at3, optR_some,
  List.map_cons, List.map_nil, List.replicate, List.append_nil, List.nil_append, List.cons_append, List.length_cons, List.length_nil, Nat.reduceAdd, Nat.reduceSub, Nat.reduceEqDiff, Nat.reduceLeDiff, if_true, if_false, reduceIte, List.getElem?_cons_zero, List.getElem?_cons_succ, List.set_cons_zero, List.set_cons_succ, Option.bind, Bool.not_true, Bool.not_false, Bool.false_eq_true, beq_self_eq_true, Bool.and_true, Bool.and_false, Bool.true_and, Bool.false_and, Bool.or_true, Bool.or_false, Bool.true_or, Bool.false_or, cst0, cst1, cst2, cst3, cst4, cst5, cst6, Int.reduceLE, Int.reduceLT, Int.reduceBEq, decide_true, decide_false])
section
variable {m x : Nat} {rs : List (List Ent)} {md : Nat → Option Nat} {S : Sto}
theorem run_len (hr : RowsOk m rs) : ∀ (l : List Nat) (k : Nat), k < rs.length → (∀ s ∈ l, s < m) → ∀ k' es, run rs k l = some (k', es) → k' < rs.length ∧ es.length ≤ 2 * l.length
  | [], k, hk, _, k', es, h => by cases h; exact ⟨hk, Nat.zero_le _⟩
  | s :: l, k, hk, hs, k', es, h => by
    cases he : entAt rs k s with
    | none => simp only [run, he] at h; cases h
    | some p =>
      obtain ⟨k1, e1⟩ := p
      simp only [run, he] at h
      obtain ⟨q, hq, e⟩ := Option.map_eq_some_iff.mp h
      cases e
      obtain ⟨g1, g2, g3⟩ := ent_ok hr hk (hs s (List.mem_cons_self ..)) he
      obtain ⟨h1, h2⟩ := run_len hr l k1 g1 (fun s hs' => hs s (List.mem_cons_of_mem _ hs')) q.1 q.2 hq
      refine ⟨h1, ?_⟩
      rw [List.length_append, List.length_cons]
      omega
theorem rdg_len (hr : RowsOk m rs) {l : List Nat} (hs : ∀ s ∈ l, s < m) {es : List Evt} (h : rdg rs l = some es) : es.length ≤ 2 * l.length := by
  unfold rdg at h
  split at h
  · rename_i es' e
    cases h
    exact (run_len hr l 0 hr.n1 hs _ _ e).2
  · cases h
def itmD : Option (List Evt) → D
  | none => .non
  | some es => .tup (itemsL es)
theorem items_ok (h : S[x]? = some (readerO m rs md)) (hr : RowsOk m rs) {l : List Nat} (hs : ∀ s ∈ l, s < m) (hl : l.length ≤ 400) : f_items [.ref x, .str (tx l)] S = .ok (.d (itmD (rdg rs l))) S := by
  have e2 := check_text_ok h hr.m6 hl hs
  have e3 := reading_of_ok h hr hs hl
  unfold f_items b_items runF
  cases hrd : rdg rs l with
  | none =>
    rw [hrd] at e3
    simp only [rdgD] at e3
    repeat first | walk_at "ev" | simp only [e2, e3]
    rfl
  | some es =>
    rw [hrd] at e3
    have e3' : f_reading_of [.ref x, .str (tx l)] S = .ok (.d (evsD es)) S := e3
    have hle := rdg_len hr hs hrd
    have e4 := items_in_ok (es := es) (by omega) S
    have nn : isNon (evsD es) = false := rfl
    repeat first | walk_at "ev" | simp only [e2, e3', nn, e4]
    rfl
/-- the number of signs read ahead of the first that is not -/
def stk (rs : List (List Ent)) : Nat → List Nat → Nat → Nat ⊕ Nat
  | k, [], _ => .inr k
  | k, s :: l, j => match entAt rs k s with
    | some (k', _) => stk rs k' l (j + 1)
    | none => .inl j
theorem stuck_loop (h : S[x]? = some (readerO m rs md)) (hr : RowsOk m rs) {t : Option D} : ∀ (l : List Nat) (k j : Nat) (z3 z4 z5 : Option D), k < rs.length → (∀ s ∈ l, s < m) →
    match stk rs k l j with
    | .inl a => loopF (fun _ => True) (forB (gTp 2 (gsCons (gNm 3) (gsCons (gNm 4) gsNil))) b_stuck_at_l0) (numFrom j (l.map fun s => D.str (tx [s]))) [some (.ref x), t, some (.int (k : Int)), z3, z4, z5] S = .ok (.ret (.d (.int (a : Nat)))) S
    | .inr k' => ∃ y3 y4 y5, loopF (fun _ => True) (forB (gTp 2 (gsCons (gNm 3) (gsCons (gNm 4) gsNil))) b_stuck_at_l0) (numFrom j (l.map fun s => D.str (tx [s]))) [some (.ref x), t, some (.int (k : Int)), z3, z4, z5] S = .ok (.nx [some (.ref x), t, some (.int (k' : Int)), y3, y4, y5]) S
  | [], k, j, z3, z4, z5, hk, hs => ⟨z3, z4, z5, lp_nil⟩
  | s :: l, k, j, z3, z4, z5, hk, hs => by
    have hsm := hs s (List.mem_cons_self ..)
    have hm6 := hr.m6
    obtain ⟨r, h1, h2⟩ := ent_at hr hk hsm
    have e1 := entry_for_ok h (by omega) h1 h2
    have lc : loopF (fun _ => True) (forB (gTp 2 (gsCons (gNm 3) (gsCons (gNm 4) gsNil))) b_stuck_at_l0) (numFrom j ((s :: l).map fun s => D.str (tx [s]))) [some (.ref x), t, some (.int (k : Int)), z3, z4, z5] S = (forB (gTp 2 (gsCons (gNm 3) (gsCons (gNm 4) gsNil))) b_stuck_at_l0 (.tup [.int (j : Nat), .str (tx [s])]) [some (.ref x), t, some (.int (k : Int)), z3, z4, z5] S).bind fun f S1 => match f with
      | .nx s1 => loopF (fun _ => True) (forB (gTp 2 (gsCons (gNm 3) (gsCons (gNm 4) gsNil))) b_stuck_at_l0) (numFrom (j + 1) (l.map fun s => D.str (tx [s]))) s1 S1
      | .ct s1 => loopF (fun _ => True) (forB (gTp 2 (gsCons (gNm 3) (gsCons (gNm 4) gsNil))) b_stuck_at_l0) (numFrom (j + 1) (l.map fun s => D.str (tx [s]))) s1 S1
      | .bk s1 => .ok (.nx s1) S1
      | .ret x => .ok (.ret x) S1 := lp_cons
    cases he : entAt rs k s with
    | none =>
      rw [he] at e1
      have es : stk rs k (s :: l) j = .inl j := by simp only [stk, he]
      rw [es]
      show _ = _
      rw [lc]
      have step : forB (gTp 2 (gsCons (gNm 3) (gsCons (gNm 4) gsNil))) b_stuck_at_l0 (.tup [.int (j : Nat), .str (tx [s])]) [some (.ref x), t, some (.int (k : Int)), z3, z4, z5] S = .ok (.ret (.d (.int (j : Nat)))) S := by
        unfold forB b_stuck_at_l0
        simp only [entD] at e1
        repeat first | walk_at "ev" | simp only [gTp, gsCons, gsNil, seqD, e1]
      rw [step, bind_ok]
    | some p =>
      obtain ⟨k1, ev⟩ := p
      rw [he] at e1
      obtain ⟨g1, g2, g3⟩ := ent_ok hr hk hsm he
      have es : stk rs k (s :: l) j = stk rs k1 l (j + 1) := by simp only [stk, he]
      rw [es]
      have step : forB (gTp 2 (gsCons (gNm 3) (gsCons (gNm 4) gsNil))) b_stuck_at_l0 (.tup [.int (j : Nat), .str (tx [s])]) [some (.ref x), t, some (.int (k : Int)), z3, z4, z5] S = .ok (.nx [some (.ref x), t, some (.int (k1 : Int)), some (.int (j : Nat)), some (.str (tx [s])), some (entD (some (k1, ev)))]) S := by
        unfold forB b_stuck_at_l0
        simp only [entD] at e1 ⊢
        repeat first | walk_at "ev" | simp only [gTp, gsCons, gsNil, seqD, e1]
      rw [lc, step, bind_ok]
      exact stuck_loop h hr (t := t) l k1 (j + 1) _ _ _ g1 (fun s hs' => hs s (List.mem_cons_of_mem _ hs'))
def stkD (rs : List (List Ent)) (l : List Nat) : D := match stk rs 0 l 0 with
  | .inl a => .int (a : Nat)
  | .inr 0 => .non
  | .inr _ => .int (l.length : Nat)
theorem stuck_at_ok (h : S[x]? = some (readerO m rs md)) (hr : RowsOk m rs) {l : List Nat} (hs : ∀ s ∈ l, s < m) (hl : l.length ≤ 400) : f_stuck_at [.ref x, .str (tx l)] S = .ok (.d (stkD rs l)) S := by
  have e2 := check_text_ok h hr.m6 hl hs
  have e4 := fld_ends h
  have lp := stuck_loop h hr (t := some (.str (tx l))) l 0 0 none none none hr.n1 hs
  have ln : bLen (.d (.str (tx l))) S = .ok (.d (.int (l.length : Nat))) S := by rw [len_str (by rw [tx_len]; exact Nat.le_trans hl (by decide)), tx_len]
  unfold f_stuck_at b_stuck_at runF stkD
  cases hst : stk rs 0 l 0 with
  | inl a =>
    rw [hst] at lp
    have lp' : loopF (fun _ => True) (forB (gTp 2 (gsCons (gNm 3) (gsCons (gNm 4) gsNil))) b_stuck_at_l0) (numFrom 0 (l.map fun s => D.str (tx [s]))) [some (.ref x), some (.str (tx l)), some (.int 0), none, none, none] S = .ok (.ret (.d (.int (a : Nat)))) S := lp
    repeat first | simp only [e2, iEnumM, enumW, numL_from, tx_sigs, lp'] | walk_at "ev"
  | inr k =>
    rw [hst] at lp
    obtain ⟨y3, y4, y5, lp⟩ := lp
    have lp' : loopF (fun _ => True) (forB (gTp 2 (gsCons (gNm 3) (gsCons (gNm 4) gsNil))) b_stuck_at_l0) (numFrom 0 (l.map fun s => D.str (tx [s]))) [some (.ref x), some (.str (tx l)), some (.int 0), none, none, none] S = .ok (.nx [some (.ref x), some (.str (tx l)), some (.int (k : Int)), y3, y4, y5]) S := lp
    cases k with
    | zero =>
      have i0 : inD (.int ((0 : Nat) : Int)) (.tup [.int 0]) S = .ok (.d (.bl (decide (0 = 0)))) S := in_ends (k := 0)
      simp only [cst0] at i0 lp'
      repeat first | simp only [e2, iEnumM, enumW, numL_from, tx_sigs, lp', e4, i0] | walk_at "ev"
    | succ k =>
      have i0 := in_ends (k := k + 1) (S := S)
      have d0 : decide (k + 1 = 0) = false := decide_eq_false (by omega)
      rw [d0] at i0
      repeat first | simp only [e2, iEnumM, enumW, numL_from, tx_sigs, lp', e4, i0, ln] | walk_at "ev"
end

end K0
namespace K0
open PySem L2 PyProof.Rows Ev
local macro_rules | `(tactic| walk_at "ev") => `(tactic| simp only [sFor_eq, sSeq, sRet, sRetN, sIf, sAsg, sExpr, sNext, sPar, sPar3, sCont, sBreak, sNever, eAndM, eOrM, eNotM, eIf, eChain, eOp, eUn, eC, eV, eCall, eIsi, eIsiT, kitAnyB, eTup, eLst, eBi1, aNil, aCons, tVal, tTru, tNotM, tAndM, tOrM, asB, truB, blR, gNm, iAny, bind_ok, bind_no, force_d, force_tl, force_no, gcR_same, walk_tup, walk_tl, walk_str,
  kit_ii, kit_ib, kit_is, kit_it, kit_il, kit_ss, kit_si, kit_sb, kit_st, kit_sl, kit_tt, kit_ti, kit_tb, kit_ts, kit_tl, kit_ll, kit_li, kit_lb, kit_ls, kit_lt, kit_bb, kit_bi, kit_ni, kit_nb, kit_ns, kit_nt, kit_nl, ty_non, ty_bl, ty_int, ty_str, ty_tup,
  leD_int, geD_int, ltD_int, gtD_int, addD_int, subD_int, isD_non, isNotD_non, isD_bl, non_non, non_bl, non_int, non_str, non_tup, non_ref, eqD_int, neD_int, eqD_bl, ixd_tup, len_tup, len_tl, tuple_tl, bg0, bg1, bg2, bg3, bg4, bg5, at0, at1, at2, at3, optR_some,
  List.map_cons, List.map_nil, List.replicate, List.append_nil, List.nil_append, List.cons_append, List.length_cons, List.length_nil, Nat.reduceAdd, Nat.reduceSub, Nat.reduceEqDiff, Nat.reduceLeDiff, if_true, if_false, reduceIte, List.getElem?_cons_zero, List.getElem?_cons_succ, List.set_cons_zero, List.set_cons_succ, Option.bind, Bool.not_true, Bool.not_false, Bool.false_eq_true, beq_self_eq_true, Bool.and_true, Bool.and_false, Bool.true_and, Bool.false_and, Bool.or_true, Bool.or_false, Bool.true_or, Bool.false_or, cst0, cst1, cst2, cst3, cst4, cst5, cst6, Int.reduceLE, Int.reduceLT, Int.reduceBEq, decide_true, decide_false])
/-! the box of drawn numbers -/
structure Bx where
  a : Int
  g : Bool
  m : Int
  c : Nat
abbrev boxO (x : Bx) : O := .lst [.int x.a, .bl x.g, .int x.m, .int (x.c : Nat)]
structure BxOk (x : Bx) (n : Nat) : Prop where
  a0 : 0 ≤ x.a
  m0 : 0 ≤ x.m
  m1 : x.m < 2147483629
  cn : x.c ≤ n
theorem modI {i j : Int} {S : Sto} (h : 0 < j) : modD (.int i) (.int j) S = .ok (.d (.int (i % j))) S := if_pos h
theorem fdivI {i j : Int} {S : Sto} (h : 0 < j) (h2 : j < 1073741824) : fdivD (.int i) (.int j) S = .ok (.d (.int (i / j))) S := if_pos ⟨h, h2⟩
theorem mulI {i j : Int} {S : Sto} (h : i.natAbs < 18446744073709551616) : mulD (.int i) (.int j) S = .ok (.d (.int (i * j))) S := if_pos (.inl h)
theorem powI {i : Int} {S : Sto} {n : Nat} (h : i.natAbs < 18446744073709551616) (hn : n ≤ 100) : powD (.int i) (.int (n : Nat)) S = .ok (.d (.int (i ^ n))) S := by
  show (if 0 ≤ (n : Int) ∧ (n : Int) ≤ 1000000 ∧ i.natAbs < 2 ^ 64 then R.ok (XR.d (.int (i ^ ((n : Int)).toNat))) S else .no) = _
  rw [if_pos ⟨by omega, by omega, h⟩, Int.toNat_natCast]
theorem setI {n : Nat} {xs : List D} {d : D} {i : Nat} {S : Sto} (h : S[n]? = some (.lst xs)) (hi : i < xs.length) : setD (.ref n) (.int (i : Nat)) d S = .ok () (S.set n (.lst (xs.set i d))) := by
  have e : ixN xs.length ((i : Nat) : Int) = some i := by
    unfold ixN
    rw [if_pos (Int.natCast_nonneg i), if_pos (by omega), Int.toNat_natCast]
  unfold setD
  simp only [h, e]

end K0
namespace K0
open PySem L2 PyProof.Rows Ev
local macro_rules | `(tactic| walk_at "ev") => `(tactic| simp only [sFor_eq, sSeq, sRet, sRetN, sIf, sAsg, sExpr, sNext, sPar, sPar3, sCont, sBreak, sNever, eAndM, eOrM, eNotM, eIf, eChain, eOp, eUn, eC, eV, eCall, eIsi, eIsiT, kitAnyB, eTup, eLst, eBi1, aNil, aCons, tVal, tTru, tNotM, tAndM, tOrM, asB, truB, blR, gNm, iAny, bind_ok, bind_no, force_d, force_tl, force_no, gcR_same, walk_tup, walk_tl, walk_str,
  kit_ii, kit_ib, kit_is, kit_it, kit_il, kit_ss, kit_si, kit_sb, kit_st, kit_sl, kit_tt, kit_ti, kit_tb, kit_ts, kit_tl, kit_ll, kit_li, kit_lb, kit_ls, kit_lt, kit_bb, kit_bi, kit_ni, kit_nb, kit_ns, kit_nt, kit_nl, ty_non, ty_bl, ty_int, ty_str, ty_tup,
  leD_int, geD_int, ltD_int, gtD_int, addD_int, subD_int, isD_non, isNotD_non, isD_bl, non_non, non_bl, non_int, non_str, non_tup, non_ref, eqD_int, neD_int, eqD_bl, ixd_tup, len_tup, len_tl, tuple_tl, bg0, bg1, bg2, bg3, bg4, bg5, at0, at1, at2, at3, optR_some,
  List.map_cons, List.map_nil, List.replicate, List.append_nil, List.nil_append, List.cons_append, List.length_cons, List.length_nil, Nat.reduceAdd, Nat.reduceSub, Nat.reduceEqDiff, Nat.reduceLeDiff, if_true, if_false, reduceIte, List.getElem?_cons_zero, List.getElem?_cons_succ, List.set_cons_zero, List.set_cons_succ, Option.bind, Bool.not_true, Bool.not_false, Bool.false_eq_true, beq_self_eq_true, Bool.and_true, Bool.and_false, Bool.true_and, Bool.false_and, Bool.or_true, Bool.or_false, Bool.true_or, Bool.false_or, cst0, cst1, cst2, cst3, cst4, cst5, cst6, Int.reduceLE, Int.reduceLT, Int.reduceBEq, decide_true, decide_false])
theorem ixB {b : Nat} {xs : List D} {S : Sto} (h : S[b]? = some (.lst xs)) (i : Nat) {d : D} (hd : xs[i]? = some d) : ixD (.ref b) (.int (i : Nat)) S = .ok (.d d) S := by
  rw [ixd_lst h, at_nat, hd]; rfl
theorem gcI {S : Sto} {b : Nat} {x : Bx} {o : O} {d : D} (h : S[b]? = some o) (hd : clD S.length d = true) : gcR S (.d d) (S.set b (boxO x)) = .ok (.d d) (S.set b (boxO x)) := by
  have hl := (List.getElem?_eq_some_iff.mp h).1
  exact gcR_set hd (by rw [List.length_set]; exact Nat.le_refl _) (List.getElem?_set_self hl) (by simp [boxO, clO, clD, clDs]) (fun n _ hne => List.getElem?_set_ne (Ne.symm hne)) hl
theorem take_great {b : Nat} {x : Bx} {S : Sto} (h : S[b]? = some (boxO x)) (hg : x.g = true) (ha : 0 < x.a) {many : Nat} (h0 : 0 < many) (h1 : many ≤ 1000) :
    f__law_take [.ref b, .int many] S = .ok (.d (.int (x.a % many))) (S.set b (boxO { x with a := x.a / many })) := by
  have i0 : ixD (.ref b) (.int 0) S = .ok (.d (.int x.a)) S := ixB h 0 rfl
  have i1 : ixD (.ref b) (.int 1) S = .ok (.d (.bl true)) S := by
    have := ixB h 1 (d := .bl x.g) rfl
    rw [hg] at this
    exact this
  have d1 : decide ((0 : Int) < x.a) = true := decide_eq_true ha
  have m1 := modI (i := x.a) (j := (many : Int)) (S := S) (by omega)
  have f1 := fdivI (i := x.a) (j := (many : Int)) (S := S) (by omega) (by omega)
  have s1 : setD (.ref b) (.int 0) (.int (x.a / many)) S = .ok () (S.set b (boxO { x with a := x.a / many })) := setI (i := 0) h (show 0 < 4 by decide)
  have b1 : bInt (.d (.int x.a)) S = .ok (.d (.int x.a)) S := rfl
  have hgc := gcI (x := { x with a := x.a / many }) (d := .int (x.a % many)) h (by simp [clD])
  unfold f__law_take b__law_take runF
  repeat first | walk_at "ev" | simp only [i0, i1, d1, m1, f1, b1, gSb, s1, hgc]

end K0
namespace K0
open PySem L2 PyProof.Rows Ev
local macro_rules | `(tactic| walk_at "ev") => `(tactic| simp only [sFor_eq, sSeq, sRet, sRetN, sIf, sAsg, sExpr, sNext, sPar, sPar3, sCont, sBreak, sNever, eAndM, eOrM, eNotM, eIf, eChain, eOp, eUn, eC, eV, eCall, eIsi, eIsiT, kitAnyB, eTup, eLst, eBi1, aNil, aCons, tVal, tTru, tNotM, tAndM, tOrM, asB, truB, blR, gNm, iAny, bind_ok, bind_no, force_d, force_tl, force_no, gcR_same, walk_tup, walk_tl, walk_str,
  kit_ii, kit_ib, kit_is, kit_it, kit_il, kit_ss, kit_si, kit_sb, kit_st, kit_sl, kit_tt, kit_ti, kit_tb, kit_ts, kit_tl, kit_ll, kit_li, kit_lb, kit_ls, kit_lt, kit_bb, kit_bi, kit_ni, kit_nb, kit_ns, kit_nt, kit_nl, ty_non, ty_bl, ty_int, ty_str, ty_tup,
  leD_int, geD_int, ltD_int, gtD_int, addD_int, subD_int, isD_non, isNotD_non, isD_bl, non_non, non_bl, non_int, non_str, non_tup, non_ref, eqD_int, neD_int, eqD_bl, ixd_tup, len_tup, len_tl, tuple_tl, bg0, bg1, bg2, bg3, bg4, bg5, at0, at1, at2, at3, optR_some,
  List.map_cons, List.map_nil, List.replicate, List.append_nil, List.nil_append, List.cons_append, List.length_cons, List.length_nil, Nat.reduceAdd, Nat.reduceSub, Nat.reduceEqDiff, Nat.reduceLeDiff, if_true, if_false, reduceIte, List.getElem?_cons_zero, List.getElem?_cons_succ, List.set_cons_zero, List.set_cons_succ, Option.bind, Bool.not_true, Bool.not_false, Bool.false_eq_true, beq_self_eq_true, Bool.and_true, Bool.and_false, Bool.true_and, Bool.false_and, Bool.or_true, Bool.or_false, Bool.true_or, Bool.false_or, cst0, cst1, cst2, cst3, cst4, cst5, cst6, Int.reduceLE, Int.reduceLT, Int.reduceBEq, decide_true, decide_false])
theorem take_small {b n : Nat} {x : Bx} {S : Sto} (h : S[b]? = some (boxO x)) (ok : BxOk x n) (hn : n < 100000000000) (hg : x.g = false ∨ x.a ≤ 0) {many : Nat} (h0 : 0 < many) (h1 : many ≤ 1000) :
    ∃ t : Nat, t < many ∧ f__law_take [.ref b, .int many] S = .ok (.d (.int t)) (S.set b (boxO { x with c := x.c + 1 })) := by
  have hm0 := ok.m0
  have hm1 := ok.m1
  have hc := ok.cn
  have i0 : ixD (.ref b) (.int 0) S = .ok (.d (.int x.a)) S := ixB h 0 rfl
  have i1 : ixD (.ref b) (.int 1) S = .ok (.d (.bl x.g)) S := ixB h 1 rfl
  have i3 : ixD (.ref b) (.int 3) S = .ok (.d (.int (x.c : Nat))) S := ixB h 3 rfl
  obtain ⟨S1, hS1⟩ : ∃ S1 : Sto, S1 = S.set b (boxO { x with c := x.c + 1 }) := ⟨_, rfl⟩
  have g1 : S1[b]? = some (boxO { x with c := x.c + 1 }) := by rw [hS1]; exact set_at h
  have s3 : setD (.ref b) (.int 3) (.int ((x.c : Nat) + 1)) S = .ok () S1 := by
    have := setI (i := 3) (d := .int (((x.c + 1 : Nat)) : Int)) h (show 3 < 4 by decide)
    rw [hS1]
    exact this
  have j2 : ixD (.ref b) (.int 2) S1 = .ok (.d (.int x.m)) S1 := ixB g1 2 rfl
  have j3 : ixD (.ref b) (.int 3) S1 = .ok (.d (.int ((x.c + 1 : Nat) : Int))) S1 := ixB g1 3 rfl
  have mu1 := mulI (i := 15486011) (j := ((x.c + 1 : Nat) : Int)) (S := S1) (by decide)
  have po1 := powI (i := x.m + 15486011 * ((x.c + 1 : Nat) : Int) + 179425031) (n := 5) (S := S1) (by omega) (by decide)
  have bi : ∀ i : Int, bInt (.d (.int i)) S1 = .ok (.d (.int i)) S1 := fun _ => rfl
  obtain ⟨y, hy⟩ : ∃ y : Int, y = (x.m + 15486011 * ((x.c + 1 : Nat) : Int) + 179425031) ^ 5 % 2147483647 := ⟨_, rfl⟩
  have y0 : 0 ≤ y := by rw [hy]; exact Int.emod_nonneg _ (by decide)
  have y1 : y < 2147483647 := by rw [hy]; exact Int.emod_lt_of_pos _ (by decide)
  have mo1 := modI (i := (x.m + 15486011 * ((x.c + 1 : Nat) : Int) + 179425031) ^ 5) (j := 2147483647) (S := S1) (by decide)
  rw [← hy] at mo1
  have mu2 : mulD (.int y) (.int 48271) S1 = .ok (.d (.int (y * 48271))) S1 := mulI (by omega)
  have mu3 := mulI (i := 104759) (j := ((x.c + 1 : Nat) : Int)) (S := S1) (by decide)
  have po2 := powI (i := y * 48271 + 104759 * ((x.c + 1 : Nat) : Int)) (n := 3) (S := S1) (by omega) (by decide)
  obtain ⟨z, hz⟩ : ∃ z : Int, z = (y * 48271 + 104759 * ((x.c + 1 : Nat) : Int)) ^ 3 := ⟨_, rfl⟩
  rw [← hz] at po2
  have mo2 := modI (i := z) (j := 2147483587) (S := S1) (by decide)
  have fd := fdivI (i := z % 2147483587) (j := 64) (S := S1) (by decide) (by decide)
  have mo3 := modI (i := z % 2147483587 / 64) (j := (many : Int)) (S := S1) (by omega)
  have t0 : 0 ≤ z % 2147483587 / 64 % (many : Int) := Int.emod_nonneg _ (by omega)
  have t1 : z % 2147483587 / 64 % (many : Int) < many := Int.emod_lt_of_pos _ (by omega)
  refine ⟨(z % 2147483587 / 64 % (many : Int)).toNat, by omega, ?_⟩
  rw [Int.toNat_of_nonneg t0]
  have hgc : gcR S (.d (.int (z % 2147483587 / 64 % (many : Int)))) S1 = .ok (.d (.int (z % 2147483587 / 64 % (many : Int)))) S1 := by
    rw [hS1]; exact gcI h (by simp [clD])
  have p5 : powD (.int (x.m + 15486011 * ((x.c + 1 : Nat) : Int) + 179425031)) (.int 5) S1 = _ := po1
  have p3 : powD (.int (y * 48271 + 104759 * ((x.c + 1 : Nat) : Int))) (.int 3) S1 = _ := po2
  rw [← hS1]
  unfold f__law_take b__law_take runF
  cases hgb : x.g with
  | false =>
    rw [hgb] at i1
    repeat first | simp only [i0, i1, i3, gSb, s3, j2, j3, mu1, p5, bi, mo1, mu2, mu3, p3, mo2, fd, mo3, hgc] | walk_at "ev"
  | true =>
    rw [hgb] at i1
    have d1 : decide ((0 : Int) < x.a) = false := decide_eq_false (by
      rcases hg with hg | hg
      · rw [hgb] at hg; cases hg
      · omega)
    repeat first | simp only [i0, i1, d1, i3, gSb, s3, j2, j3, mu1, p5, bi, mo1, mu2, mu3, p3, mo2, fd, mo3, hgc] | walk_at "ev"

end K0
namespace K0
open PySem L2 PyProof.Rows Ev
local macro_rules | `(tactic| walk_at "ev") => `(tactic| simp only [sFor_eq, sSeq, sRet, sRetN, sIf, sAsg, sExpr, sNext, sPar, sPar3, sCont, sBreak, sNever, eAndM, eOrM, eNotM, eIf, eChain, eOp, eUn, eC, eV, eCall, eIsi, eIsiT, kitAnyB, eTup, eLst, eBi1, aNil, aCons, tVal, tTru, tNotM, tAndM, tOrM, asB, truB, blR, gNm, iAny, bind_ok, bind_no, force_d, force_tl, force_no, gcR_same, walk_tup, walk_tl, walk_str,
  kit_ii, kit_ib, kit_is, kit_it, kit_il, kit_ss, kit_si, kit_sb, kit_st, kit_sl, kit_tt, kit_ti, kit_tb, kit_ts, kit_tl, kit_ll, kit_li, kit_lb, kit_ls, kit_lt, kit_bb, kit_bi, kit_ni, kit_nb, kit_ns, kit_nt, kit_nl, ty_non, ty_bl, ty_int, ty_str, ty_tup,
  leD_int, geD_int, ltD_int, gtD_int, addD_int, subD_int, isD_non, isNotD_non, isD_bl, non_non, non_bl, non_int, non_str, non_tup, non_ref, eqD_int, neD_int, eqD_bl, ixd_tup, len_tup, len_tl, tuple_tl, bg0, bg1, bg2, bg3, bg4, bg5, at0, at1, at2, at3, optR_some,
  List.map_cons, List.map_nil, List.replicate, List.append_nil, List.nil_append, List.cons_append, List.length_cons, List.length_nil, Nat.reduceAdd, Nat.reduceSub, Nat.reduceEqDiff, Nat.reduceLeDiff, if_true, if_false, reduceIte, List.getElem?_cons_zero, List.getElem?_cons_succ, List.set_cons_zero, List.set_cons_succ, Option.bind, Bool.not_true, Bool.not_false, Bool.false_eq_true, beq_self_eq_true, Bool.and_true, Bool.and_false, Bool.true_and, Bool.false_and, Bool.or_true, Bool.or_false, Bool.true_or, Bool.false_or, cst0, cst1, cst2, cst3, cst4, cst5, cst6, Int.reduceLE, Int.reduceLT, Int.reduceBEq, decide_true, decide_false])
theorem take_ok {b n : Nat} {x : Bx} {S : Sto} (h : S[b]? = some (boxO x)) (ok : BxOk x n) (hn : n < 100000000000) {many : Nat} (h0 : 0 < many) (h1 : many ≤ 1000) :
    ∃ (t : Nat) (x' : Bx), t < many ∧ BxOk x' (n + 1) ∧ f__law_take [.ref b, .int many] S = .ok (.d (.int t)) (S.set b (boxO x')) := by
  by_cases hc : x.g = true ∧ 0 < x.a
  · have e := take_great h hc.1 hc.2 h0 h1
    have t0 : 0 ≤ x.a % (many : Int) := Int.emod_nonneg _ (by omega)
    have t1 : x.a % (many : Int) < many := Int.emod_lt_of_pos _ (by omega)
    refine ⟨(x.a % (many : Int)).toNat, { x with a := x.a / many }, by omega, ⟨?_, ok.m0, ok.m1, Nat.le_trans ok.cn (Nat.le_succ n)⟩, ?_⟩
    · exact Int.ediv_nonneg ok.a0 (by omega)
    · rw [Int.toNat_of_nonneg t0]; exact e
  · obtain ⟨t, ht, e⟩ := take_small h ok hn (by
      cases hg : x.g with
      | false => exact .inl rfl
      | true => exact .inr (by
          by_cases q : 0 < x.a
          · exact absurd ⟨hg, q⟩ hc
          · omega)) h0 h1
    exact ⟨t, { x with c := x.c + 1 }, ht, ⟨ok.a0, ok.m0, ok.m1, Nat.succ_le_succ ok.cn⟩, e⟩
/-- a drawn item of a list -/
theorem pick_ok {b p n : Nat} {x : Bx} {S : Sto} {ds : List D} (h : S[b]? = some (boxO x)) (hp : S[p]? = some (.lst ds)) (hbp : p ≠ b) (ok : BxOk x n) (hn : n < 100000000000) (h0 : ds ≠ []) (h1 : ds.length ≤ 1000) (hcl : clDs S.length ds = true) :
    ∃ (t : Nat) (d : D) (x' : Bx), ds[t]? = some d ∧ BxOk x' (n + 1) ∧ f__law_pick [.ref b, .ref p] S = .ok (.d d) (S.set b (boxO x')) := by
  have hl : 0 < ds.length := by
    cases ds with
    | nil => exact absurd rfl h0
    | cons a l => simp
  obtain ⟨t, x', ht, ok', e⟩ := take_ok h ok hn hl h1
  obtain ⟨d, hd⟩ : ∃ d, ds[t]? = some d := ⟨_, List.getElem?_eq_getElem ht⟩
  have ln := len_lst hp
  have hp' : (S.set b (boxO x'))[p]? = some (.lst ds) := by rw [List.getElem?_set_ne (Ne.symm hbp)]; exact hp
  have ix := ixB hp' t hd
  have cd : clD S.length d = true := by
    have : ∀ (l : List D) (t : Nat), clDs S.length l = true → l[t]? = some d → clD S.length d = true := by
      intro l
      induction l with
      | nil => intro t _ h; simp at h
      | cons a l ih =>
        intro t hc h
        simp only [clDs, Bool.and_eq_true] at hc
        cases t with
        | zero => simp at h; rw [← h]; exact hc.1
        | succ t => exact ih t hc.2 (by simpa using h)
    exact this ds t hcl hd
  have hgc := gcI (x := x') h cd
  refine ⟨t, d, x', hd, ok', ?_⟩
  unfold f__law_pick b__law_pick runF
  repeat first | walk_at "ev" | simp only [ln, e, ix, hgc]

end K0
namespace K0
open PySem L2 PyProof.Rows Ev
local macro_rules | `(tactic| walk_at "ev") => `(tactic| simp only [sFor_eq, sSeq, sRet, sRetN, sIf, sAsg, sExpr, sNext, sPar, sPar3, sCont, sBreak, sNever, eAndM, eOrM, eNotM, eIf, eChain, eOp, eUn, eC, eV, eCall, eIsi, eIsiT, kitAnyB, eTup, eLst, eBi1, aNil, aCons, tVal, tTru, tNotM, tAndM, tOrM, asB, truB, blR, gNm, iAny, bind_ok, bind_no, force_d, force_tl, force_no, gcR_same, walk_tup, walk_tl, walk_str,
  kit_ii, kit_ib, kit_is, kit_it, kit_il, kit_ss, kit_si, kit_sb, kit_st, kit_sl, kit_tt, kit_ti, kit_tb, kit_ts, kit_tl, kit_ll, kit_li, kit_lb, kit_ls, kit_lt, kit_bb, kit_bi, kit_ni, kit_nb, kit_ns, kit_nt, kit_nl, ty_non, ty_bl, ty_int, ty_str, ty_tup,
  leD_int, geD_int, ltD_int, gtD_int, addD_int, subD_int, isD_non, isNotD_non, isD_bl, non_non, non_bl, non_int, non_str, non_tup, non_ref, eqD_int, neD_int, eqD_bl, ixd_tup, len_tup, len_tl, tuple_tl, bg0, bg1, bg2, bg3, bg4, bg5, at0, at1, at2, at3, optR_some,
  List.map_cons, List.map_nil, List.replicate, List.append_nil, List.nil_append, List.cons_append, List.length_cons, List.length_nil, Nat.reduceAdd, Nat.reduceSub, Nat.reduceEqDiff, Nat.reduceLeDiff, if_true, if_false, reduceIte, List.getElem?_cons_zero, List.getElem?_cons_succ, List.set_cons_zero, List.set_cons_succ, Option.bind, Bool.not_true, Bool.not_false, Bool.false_eq_true, beq_self_eq_true, Bool.and_true, Bool.and_false, Bool.true_and, Bool.false_and, Bool.or_true, Bool.or_false, Bool.true_or, Bool.false_or, cst0, cst1, cst2, cst3, cst4, cst5, cst6, Int.reduceLE, Int.reduceLT, Int.reduceBEq, decide_true, decide_false])
def absI (z : Int) : Int := if z < 0 then -z else z
def boxOf (z : Int) : Bx := ⟨absI z, decide (1000000000000000000 ≤ absI z), absI z % 2147483629, 0⟩
theorem absI_nonneg (z : Int) : 0 ≤ absI z := by unfold absI; split <;> omega
theorem boxOf_ok (z : Int) : BxOk (boxOf z) 0 := ⟨absI_nonneg z, Int.emod_nonneg _ (by decide), Int.emod_lt_of_pos _ (by decide), Nat.le_refl 0⟩
theorem law_box_ok (z : Int) (S : Sto) : f__law_box [.int z] S = .ok (.tl [.int (boxOf z).a, .bl (boxOf z).g, .int (boxOf z).m, .int 0]) S := by
  have b1 : bAbs (.d (.int z)) S = .ok (.d (.int (absI z))) S := rfl
  have b2 : ∀ i : Int, bInt (.d (.int i)) S = .ok (.d (.int i)) S := fun _ => rfl
  have p1 : powD (.int 10) (.int 18) S = .ok (.d (.int 1000000000000000000)) S := powI (i := 10) (n := 18) (by decide) (by decide)
  have m1 := modI (i := absI z) (j := 2147483629) (S := S) (by decide)
  unfold f__law_box b__law_box runF
  repeat first | simp only [b1, b2, p1, m1] | walk_at "ev"
  rfl

end K0
namespace K0
open PySem L2 PyProof.Rows Ev
local macro_rules | `(tactic| walk_at "ev") => `(tactic| simp only [sFor_eq, sSeq, sRet, sRetN, sIf, sAsg, sExpr, sNext, sPar, sPar3, sCont, sBreak, sNever, eAndM, eOrM, eNotM, eIf, eChain, eOp, eUn, eC, eV, eCall, eIsi, eIsiT, kitAnyB, eTup, eLst, eBi1, aNil, aCons, tVal, tTru, tNotM, tAndM, tOrM, asB, truB, blR, gNm, iAny, bind_ok, bind_no, force_d, force_tl, force_no, gcR_same, walk_tup, walk_tl, walk_str,
  kit_ii, kit_ib, kit_is, kit_it, kit_il, kit_ss, kit_si, kit_sb, kit_st, kit_sl, kit_tt, kit_ti, kit_tb, kit_ts, kit_tl, kit_ll, kit_li, kit_lb, kit_ls, kit_lt, kit_bb, kit_bi, kit_ni, kit_nb, kit_ns, kit_nt, kit_nl, ty_non, ty_bl, ty_int, ty_str, ty_tup,
  leD_int, geD_int, ltD_int, gtD_int, addD_int, subD_int, isD_non, isNotD_non, isD_bl, non_non, non_bl, non_int, non_str, non_tup, non_ref, eqD_int, neD_int, eqD_bl, ixd_tup, len_tup, len_tl, tuple_tl, bg0, bg1, bg2, bg3, bg4, bg5, at0, at1, at2, at3, optR_some,
  List.map_cons, List.map_nil, List.replicate, List.append_nil, List.nil_append, List.cons_append, List.length_cons, List.length_nil, Nat.reduceAdd, Nat.reduceSub, Nat.reduceEqDiff, Nat.reduceLeDiff, if_true, if_false, reduceIte, List.getElem?_cons_zero, List.getElem?_cons_succ, List.set_cons_zero, List.set_cons_succ, Option.bind, Bool.not_true, Bool.not_false, Bool.false_eq_true, beq_self_eq_true, Bool.and_true, Bool.and_false, Bool.true_and, Bool.false_and, Bool.or_true, Bool.or_false, Bool.true_or, Bool.false_or, cst0, cst1, cst2, cst3, cst4, cst5, cst6, Int.reduceLE, Int.reduceLT, Int.reduceBEq, decide_true, decide_false])
theorem intsD_map : ∀ l : List Int, intsD (l.map D.int) = some l
  | [] => rfl
  | i :: l => by
    show (intsD (l.map D.int)).map (i :: ·) = _
    rw [intsD_map l]; rfl
theorem law_cell_ok {ns : List Int} {S : Sto} {k : Nat} (h : S[0]? = some (.rol (ns.map D.int))) : ∃ z : Int, f__law_cell [.ref 0, .int k] S = .ok (.d (.int z)) S := by
  have la : Ev.listAt S 0 = some (ns.map D.int) := by unfold Ev.listAt; rw [h]
  have ln : bLen (.d (.ref 0)) S = .ok (.d (.int (ns.length : Nat))) S := by
    unfold bLen
    simp only [h, la, List.length_map]
  by_cases hk : k < ns.length
  · obtain ⟨z, hz⟩ : ∃ z, ns[k]? = some z := ⟨_, List.getElem?_eq_getElem hk⟩
    have d1 : decide ((k : Int) < ((ns.length : Nat) : Int)) = true := decide_eq_true (by omega)
    have ix : ixD (.ref 0) (.int (k : Int)) S = .ok (.d (.int z)) S := by
      unfold ixD
      simp only [la]
      rw [at_nat, List.getElem?_map, hz]; rfl
    refine ⟨z, ?_⟩
    unfold f__law_cell b__law_cell runF
    repeat first | simp only [ln, d1, ix] | walk_at "ev"
  · have d1 : decide ((k : Int) < ((ns.length : Nat) : Int)) = false := decide_eq_false (by omega)
    obtain ⟨ms, hms⟩ : ∃ ms : List Int, cutL (ns.map D.int) none (some 1) = ms.map D.int := ⟨cutL ns none (some 1), by
      unfold cutL
      rw [List.length_map, List.map_take, List.map_drop]⟩
    have sl : slD (.ref 0) none (some 1) S = .ok (.tl (ms.map D.int)) S := by
      unfold slD
      simp only [la, hms]
    have sm : bSum (.tl (ms.map D.int)) S = .ok (.d (.int ms.sum)) S := by
      unfold bSum listX
      simp only [Option.bind, intsD_map]
    have b2 : bInt (.d (.int ms.sum)) S = .ok (.d (.int ms.sum)) S := rfl
    have m1 := modI (i := ms.sum) (j := 1000151) (S := S) (by decide)
    have mu := mulI (i := 7057) (j := (k : Int)) (S := S) (by decide)
    refine ⟨7057 * (k : Int) + ms.sum % 1000151, ?_⟩
    unfold f__law_cell b__law_cell runF
    repeat first | simp only [ln, d1, eSl, ePart, sl, sm, b2, m1, mu] | walk_at "ev"

end K0
namespace K0
open PySem L2 PyProof.Rows Ev
local macro_rules | `(tactic| walk_at "ev") => `(tactic| simp only [sFor_eq, sSeq, sRet, sRetN, sIf, sAsg, sExpr, sNext, sPar, sPar3, sCont, sBreak, sNever, eAndM, eOrM, eNotM, eIf, eChain, eOp, eUn, eC, eV, eCall, eIsi, eIsiT, kitAnyB, eTup, eLst, eBi1, aNil, aCons, tVal, tTru, tNotM, tAndM, tOrM, asB, truB, blR, gNm, iAny, bind_ok, bind_no, force_d, force_tl, force_no, gcR_same, walk_tup, walk_tl, walk_str,
  kit_ii, kit_ib, kit_is, kit_it, kit_il, kit_ss, kit_si, kit_sb, kit_st, kit_sl, kit_tt, kit_ti, kit_tb, kit_ts, kit_tl, kit_ll, kit_li, kit_lb, kit_ls, kit_lt, kit_bb, kit_bi, kit_ni, kit_nb, kit_ns, kit_nt, kit_nl, ty_non, ty_bl, ty_int, ty_str, ty_tup,
  leD_int, geD_int, ltD_int, gtD_int, addD_int, subD_int, isD_non, isNotD_non, isD_bl, non_non, non_bl, non_int, non_str, non_tup, non_ref, eqD_int, neD_int, eqD_bl, ixd_tup, len_tup, len_tl, tuple_tl, bg0, bg1, bg2, bg3, bg4, bg5, at0, at1, at2, at3, optR_some,
  List.map_cons, List.map_nil, List.replicate, List.append_nil, List.nil_append, List.cons_append, List.length_cons, List.length_nil, Nat.reduceAdd, Nat.reduceSub, Nat.reduceEqDiff, Nat.reduceLeDiff, if_true, if_false, reduceIte, List.getElem?_cons_zero, List.getElem?_cons_succ, List.set_cons_zero, List.set_cons_succ, Option.bind, Bool.not_true, Bool.not_false, Bool.false_eq_true, beq_self_eq_true, Bool.and_true, Bool.and_false, Bool.true_and, Bool.false_and, Bool.or_true, Bool.or_false, Bool.true_or, Bool.false_or, cst0, cst1, cst2, cst3, cst4, cst5, cst6, Int.reduceLE, Int.reduceLT, Int.reduceBEq, decide_true, decide_false])
/-! plans: words that lead from state 0 back to it -/
abbrev Edg := (Nat × Nat) × (Nat × List Evt)
def lk (E : List Edg) (a s : Nat) : Option (Nat × List Evt) := (E.find? fun e => decide (e.1 = (a, s))).map (·.2)
def pw (E : List Edg) : Nat → List Nat → Option (Nat × List Evt)
  | a, [] => some (a, [])
  | a, s :: l => match lk E a s with
    | some (b, es) => (pw E b l).map fun p => (p.1, es ++ p.2)
    | none => none
/-- the number of signs that are read -/
def sp (E : List Edg) : Nat → List Nat → Nat
  | _, [] => 0
  | a, s :: l => match lk E a s with
    | some (b, _) => sp E b l + 1
    | none => 0
theorem pw_cons {E : List Edg} {a s : Nat} {l : List Nat} : pw E a (s :: l) = match lk E a s with
    | some (b, es) => (pw E b l).map fun p => (p.1, es ++ p.2)
    | none => none := rfl
theorem sp_cons {E : List Edg} {a s : Nat} {l : List Nat} : sp E a (s :: l) = match lk E a s with
    | some (b, _) => sp E b l + 1
    | none => 0 := rfl
theorem lk_mem {E : List Edg} {a s : Nat} {p : Nat × List Evt} (h : lk E a s = some p) : ((a, s), p) ∈ E := by
  unfold lk at h
  obtain ⟨e, h1, h2⟩ := Option.map_eq_some_iff.mp h
  have h3 := List.mem_of_find?_eq_some h1
  have h4 := of_decide_eq_true (List.find?_some (p := fun e : Edg => decide (e.1 = (a, s))) h1)
  subst h2
  rw [← h4]; exact h3
theorem lk_of : ∀ {E : List Edg} {a s : Nat} {p : Nat × List Evt}, (E.map (·.1)).Nodup → ((a, s), p) ∈ E → lk E a s = some p := by
  intro E a s p nd h
  induction E with
  | nil => cases h
  | cons e E ih =>
    rw [List.map_cons, List.nodup_cons] at nd
    unfold lk
    rw [List.find?_cons]
    rcases List.mem_cons.mp h with h | h
    · subst h; simp
    · have : e.1 ≠ (a, s) := fun q => nd.1 (by rw [q]; exact List.mem_map.mpr ⟨_, h, rfl⟩)
      rw [decide_eq_false this]
      exact ih nd.2 h
theorem pw_app {E : List Edg} : ∀ (l : List Nat) {r : List Nat} {a b : Nat} {es : List Evt}, pw E a l = some (b, es) → pw E a (l ++ r) = (pw E b r).map fun p => (p.1, es ++ p.2)
  | [], r, a, b, es, h => by
    cases h
    show pw E a r = _
    cases pw E a r with
    | none => rfl
    | some p => simp
  | s :: l, r, a, b, es, h => by
    rw [List.cons_append, pw_cons]
    rw [pw_cons] at h
    cases e : lk E a s with
    | none => rw [e] at h; cases h
    | some q =>
      obtain ⟨c, fs⟩ := q
      rw [e] at h
      simp only at h ⊢
      cases e2 : pw E c l with
      | none => rw [e2] at h; cases h
      | some p =>
        rw [e2] at h
        cases h
        rw [pw_app l e2]
        cases pw E p.1 r with
        | none => rfl
        | some p => simp
theorem sp_app {E : List Edg} : ∀ (l : List Nat) {r : List Nat} {a b : Nat} {es : List Evt}, pw E a l = some (b, es) → sp E a (l ++ r) = l.length + sp E b r
  | [], r, a, b, es, h => by cases h; simp
  | s :: l, r, a, b, es, h => by
    rw [List.cons_append, sp_cons]
    rw [pw_cons] at h
    cases e : lk E a s with
    | none => rw [e] at h; cases h
    | some q =>
      obtain ⟨c, fs⟩ := q
      rw [e] at h
      simp only at h ⊢
      cases e2 : pw E c l with
      | none => rw [e2] at h; cases h
      | some p =>
        rw [e2] at h
        cases h
        rw [sp_app l e2, List.length_cons]
        omega
theorem pw_len {E : List Edg} (hE : ∀ e ∈ E, e.2.2.length ≤ 2) : ∀ (l : List Nat) {a b : Nat} {es : List Evt}, pw E a l = some (b, es) → es.length ≤ 2 * l.length
  | [], a, b, es, h => by cases h; simp
  | s :: l, a, b, es, h => by
    unfold pw at h
    cases e : lk E a s with
    | none => rw [e] at h; cases h
    | some q =>
      obtain ⟨c, fs⟩ := q
      rw [e] at h
      simp only at h
      cases e2 : pw E c l with
      | none => rw [e2] at h; cases h
      | some p =>
        rw [e2] at h
        cases h
        have h1 := pw_len hE l e2
        have h2 := hE _ (lk_mem e)
        rw [List.length_append, List.length_cons]
        simp only at h2
        omega
theorem mb_app : ∀ (es : List Evt) {fs : List Evt} {m m1 : Option Nat}, mb m es = some m1 → mb m (es ++ fs) = mb m1 fs
  | [], fs, m, m1, h => by cases h; rfl
  | e :: es, fs, m, m1, h => by
    cases e <;> cases m <;> first | exact mb_app es h | cases h
structure PlanOk (m n : Nat) (E : List Edg) (kn : List (Option Nat)) (hm : List (List Nat)) : Prop where
  m2 : 2 ≤ m
  m6 : m ≤ 6
  n1 : 1 ≤ n
  n8 : n ≤ 8
  kl : kn.length = n
  hl : hm.length = n
  k0 : kn.getD 0 none = none
  h0 : hm.getD 0 [] = []
  hb : ∀ a, a < n → (hm.getD a []).length ≤ a ∧ ∀ s ∈ hm.getD a [], s < m
  ed : ∀ a s b es, ((a, s), (b, es)) ∈ E → a < n ∧ s < m ∧ b < n ∧ es.length ≤ 2 ∧ (∀ e ∈ es, evOk m e) ∧ mb (kn.getD a none) es = some (kn.getD b none) ∧ (b ≠ 0 → hm.getD b [] = hm.getD a [] ++ [s])
  nd : (E.map (·.1)).Nodup
  into : ∀ b, 0 < b → b < n → ∃ a s es, ((a, s), (b, es)) ∈ E ∧ a < b
  back : ∀ a, a < n → ∃ s es, ((a, s), (0, es)) ∈ E
section
variable {m n : Nat} {E : List Edg} {kn : List (Option Nat)} {hm : List (List Nat)}
theorem PlanOk.ev2 (p : PlanOk m n E kn hm) : ∀ e ∈ E, e.2.2.length ≤ 2 := fun e he => (p.ed e.1.1 e.1.2 e.2.1 e.2.2 he).2.2.2.1
theorem PlanOk.lks (p : PlanOk m n E kn hm) {a s b : Nat} {es : List Evt} (h : ((a, s), (b, es)) ∈ E) : lk E a s = some (b, es) := lk_of p.nd h
theorem PlanOk.home (p : PlanOk m n E kn hm) : ∀ (a : Nat), a < n → ∃ es, pw E 0 (hm.getD a []) = some (a, es) := by
  intro a
  induction a using Nat.strongRecOn with
  | ind b ih =>
    intro hb
    by_cases h0 : b = 0
    · subst h0
      rw [p.h0]
      exact ⟨[], rfl⟩
    · obtain ⟨a, s, es, h1, h2⟩ := p.into b (by omega) hb
      obtain ⟨fs, h3⟩ := ih a h2 (by omega)
      rw [(p.ed a s b es h1).2.2.2.2.2.2 h0]
      refine ⟨fs ++ es, ?_⟩
      rw [pw_app _ h3]
      unfold pw
      rw [p.lks h1]
      simp [pw]
theorem PlanOk.pwOk (p : PlanOk m n E kn hm) : ∀ (l : List Nat) {a b : Nat} {es : List Evt}, a < n → pw E a l = some (b, es) → b < n ∧ mb (kn.getD a none) es = some (kn.getD b none) ∧ (∀ e ∈ es, evOk m e)
  | [], a, b, es, ha, h => by cases h; exact ⟨ha, rfl, fun e he => by cases he⟩
  | s :: l, a, b, es, ha, h => by
    unfold pw at h
    cases e : lk E a s with
    | none => rw [e] at h; cases h
    | some q =>
      obtain ⟨c, fs⟩ := q
      rw [e] at h
      simp only at h
      cases e2 : pw E c l with
      | none => rw [e2] at h; cases h
      | some r =>
        rw [e2] at h
        cases h
        obtain ⟨h1, h2, h3, h4, h5, h6, _⟩ := p.ed _ _ _ _ (lk_mem e)
        obtain ⟨g1, g2, g3⟩ := p.pwOk l h3 e2
        refine ⟨g1, ?_, fun x hx => ?_⟩
        · rw [mb_app fs h6]; exact g2
        · rcases List.mem_append.mp hx with hx | hx
          · exact h5 x hx
          · exact g3 x hx
/-- a word: its signs and events -/
def WordOk (m : Nat) (E : List Edg) (w : List Nat × List Evt) : Prop := pw E 0 w.1 = some (0, w.2) ∧ w.1.length ≤ 8 ∧ ∀ s ∈ w.1, s < m
/-! the rows that are made of a plan -/
structure OrdOk (n : Nat) (od : List Nat) : Prop where
  len : od.length = n
  nd : od.Nodup
  lt : ∀ k ∈ od, k < n
  z : od.getD 0 0 = 0
theorem OrdOk.at_ (o : OrdOk n od) {a : Nat} (ha : a < n) : od[a]? = some (od.getD a 0) := by
  rw [List.getD_eq_getElem?_getD, List.getElem?_eq_getElem (by rw [o.len]; exact ha)]; rfl
theorem OrdOk.ltn (o : OrdOk n od) {a : Nat} (ha : a < n) : od.getD a 0 < n := o.lt _ (List.mem_of_getElem? (o.at_ ha))
theorem OrdOk.inj (o : OrdOk n od) {a b : Nat} (ha : a < n) (hb : b < n) (h : od.getD a 0 = od.getD b 0) : a = b := by
  have h1 := o.at_ ha
  have h2 := o.at_ hb
  rw [h] at h1
  have ha' : a < od.length := by rw [o.len]; exact ha
  have hb' : b < od.length := by rw [o.len]; exact hb
  rw [List.getElem?_eq_getElem ha'] at h1
  rw [List.getElem?_eq_getElem hb'] at h2
  have h3 : od[a] = od[b] := by
    have := h1.trans h2.symm
    exact Option.some.inj this
  exact (List.getElem_inj o.nd).mp h3
theorem nodup_full : ∀ (l : List Nat), l.Nodup → (∀ x ∈ l, x < l.length) → ∀ k, k < l.length → k ∈ l := by
  intro l nd lt k hk
  apply Classical.byContradiction
  intro hn
  have h2 : (k :: l).length ≤ l.length := nodup_le l.length (k :: l) (List.nodup_cons.mpr ⟨hn, nd⟩) fun x hx => by
    rcases List.mem_cons.mp hx with h | h
    · omega
    · exact lt x h
  simp at h2
  omega
theorem OrdOk.onto (o : OrdOk n od) {k : Nat} (hk : k < n) : ∃ a, a < n ∧ od.getD a 0 = k := by
  have h := nodup_full od o.nd (fun x hx => by rw [o.len]; exact o.lt x hx) k (by rw [o.len]; exact hk)
  obtain ⟨a, ha⟩ := List.mem_iff_getElem?.mp h
  have := (List.getElem?_eq_some_iff.mp ha).1
  refine ⟨a, by rw [← o.len]; exact this, ?_⟩
  rw [List.getD_eq_getElem?_getD, ha]; rfl
def rowOf (E : List Edg) (m : Nat) (od : List Nat) (a : Nat) : List Ent := (List.range m).map fun s => (lk E a s).map fun p => (od.getD p.1 0, p.2)
structure RowsOf (m n : Nat) (E : List Edg) (od : List Nat) (rs : List (List Ent)) : Prop where
  len : rs.length = n
  row : ∀ a, a < n → rs[od.getD a 0]? = some (rowOf E m od a)
variable {od : List Nat} {rs : List (List Ent)} {md : Nat → Option Nat}
theorem rowOf_mem {a k : Nat} {es : List Evt} (h : some (k, es) ∈ rowOf E m od a) : ∃ s b, s < m ∧ lk E a s = some (b, es) ∧ k = od.getD b 0 := by
  unfold rowOf at h
  obtain ⟨s, h1, h2⟩ := List.mem_map.mp h
  obtain ⟨q, h3, h4⟩ := Option.map_eq_some_iff.mp h2
  cases h4
  exact ⟨s, q.1, List.mem_range.mp h1, h3, rfl⟩
theorem RowsOf.rowsOk (p : PlanOk m n E kn hm) (o : OrdOk n od) (r : RowsOf m n E od rs) : RowsOk m rs := by
  refine ⟨p.m6, by rw [r.len]; exact p.n1, by rw [r.len]; exact p.n8, fun w hw => ?_⟩
  obtain ⟨k, hk⟩ := List.mem_iff_getElem?.mp hw
  have hl := (List.getElem?_eq_some_iff.mp hk).1
  rw [r.len] at hl
  obtain ⟨a, ha, rfl⟩ := o.onto hl
  rw [r.row a ha] at hk
  cases hk
  refine ⟨by simp [rowOf], fun e he => ?_⟩
  cases e with
  | none => exact True.intro
  | some q =>
    obtain ⟨k, es⟩ := q
    obtain ⟨s, b, h1, h2, rfl⟩ := rowOf_mem he
    obtain ⟨g1, g2, g3, g4, g5, _⟩ := p.ed _ _ _ _ (lk_mem h2)
    exact ⟨by rw [r.len]; exact o.ltn g3, g4, g5⟩
theorem RowsOf.fits (p : PlanOk m n E kn hm) (o : OrdOk n od) (r : RowsOf m n E od rs) (hmd : ∀ a, a < n → md (od.getD a 0) = kn.getD a none) : Fits rs md := by
  refine ⟨?_, fun k w hk k' es he => ?_⟩
  · have := hmd 0 p.n1
    rw [o.z, p.k0] at this
    exact this
  · have hl := (List.getElem?_eq_some_iff.mp hk).1
    rw [r.len] at hl
    obtain ⟨a, ha, rfl⟩ := o.onto hl
    rw [r.row a ha] at hk
    cases hk
    obtain ⟨s, b, h1, h2, rfl⟩ := rowOf_mem he
    obtain ⟨g1, g2, g3, g4, g5, g6, _⟩ := p.ed _ _ _ _ (lk_mem h2)
    rw [hmd a ha, hmd b g3]
    exact g6
theorem RowsOf.all (p : PlanOk m n E kn hm) (o : OrdOk n od) (r : RowsOf m n E od rs) : ∀ fs, Dc rs fs fs.length → ∀ k, k < rs.length → k ∈ fs := by
  intro fs d
  have key : ∀ b, b < n → od.getD b 0 ∈ fs := by
    intro b
    induction b using Nat.strongRecOn with
    | ind b ih =>
      intro hb
      by_cases h0 : b = 0
      · subst h0
        rw [o.z]
        exact List.mem_of_getElem? d.hd
      · obtain ⟨a, s, es, h1, h2⟩ := p.into b (by omega) hb
        have ha : a < n := by omega
        obtain ⟨i, hi⟩ := List.mem_iff_getElem?.mp (ih a h2 ha)
        refine d.clo i _ (List.getElem?_eq_some_iff.mp hi).1 hi _ (r.row a ha) _ es ?_
        unfold rowOf
        refine List.mem_map.mpr ⟨s, List.mem_range.mpr (p.ed _ _ _ _ h1).2.1, ?_⟩
        rw [p.lks h1]; rfl
  intro k hk
  rw [r.len] at hk
  obtain ⟨a, ha, rfl⟩ := o.onto hk
  exact key a ha
theorem RowsOf.ent (p : PlanOk m n E kn hm) (r : RowsOf m n E od rs) {a s : Nat} (ha : a < n) (hs : s < m) : entAt rs (od.getD a 0) s = (lk E a s).map fun q => (od.getD q.1 0, q.2) := by
  unfold entAt
  rw [r.row a ha]
  simp [rowOf, hs]
theorem RowsOf.run (p : PlanOk m n E kn hm) (r : RowsOf m n E od rs) : ∀ (l : List Nat) {a : Nat}, a < n → (∀ s ∈ l, s < m) → run rs (od.getD a 0) l = (pw E a l).map fun q => (od.getD q.1 0, q.2)
  | [], a, ha, hs => rfl
  | s :: l, a, ha, hs => by
    unfold K0.run pw
    rw [r.ent p ha (hs s (List.mem_cons_self ..))]
    cases e : lk E a s with
    | none => rfl
    | some q =>
      obtain ⟨b, es⟩ := q
      have hb := (p.ed _ _ _ _ (lk_mem e)).2.2.1
      simp only [Option.map_some]
      rw [RowsOf.run p r l hb fun x hx => hs x (List.mem_cons_of_mem _ hx)]
      cases pw E b l <;> rfl
theorem RowsOf.stk (p : PlanOk m n E kn hm) (r : RowsOf m n E od rs) : ∀ (l : List Nat) {a : Nat} (j : Nat), a < n → (∀ s ∈ l, s < m) → stk rs (od.getD a 0) l j = match pw E a l with
    | some q => .inr (od.getD q.1 0)
    | none => .inl (j + sp E a l)
  | [], a, j, ha, hs => rfl
  | s :: l, a, j, ha, hs => by
    unfold K0.stk pw sp
    rw [r.ent p ha (hs s (List.mem_cons_self ..))]
    cases e : lk E a s with
    | none => rfl
    | some q =>
      obtain ⟨b, es⟩ := q
      have hb := (p.ed _ _ _ _ (lk_mem e)).2.2.1
      simp only [Option.map_some]
      rw [RowsOf.stk p r l (j + 1) hb fun x hx => hs x (List.mem_cons_of_mem _ hx)]
      cases pw E b l with
      | none =>
        show Sum.inl (j + 1 + sp E b l) = Sum.inl (j + (sp E b l + 1))
        rw [show j + 1 + sp E b l = j + (sp E b l + 1) by omega]
      | some q => rfl
end

end K0
namespace K0
open PySem L2 PyProof.Rows Ev
local macro_rules | `(tactic| walk_at "ev") => `(tactic| simp only [sFor_eq, sSeq, sRet, sRetN, sIf, sAsg, sExpr, sNext, sPar, sPar3, sCont, sBreak, sNever, eAndM, eOrM, eNotM, eIf, eChain, eOp, eUn, eC, eV, eCall, eIsi, eIsiT, kitAnyB, eTup, eLst, eBi1, aNil, aCons, tVal, tTru, tNotM, tAndM, tOrM, asB, truB, blR, gNm, iAny, bind_ok, bind_no, force_d, force_tl, force_no, gcR_same, walk_tup, walk_tl, walk_str,
  kit_ii, kit_ib, kit_is, kit_it, kit_il, kit_ss, kit_si, kit_sb, kit_st, kit_sl, kit_tt, kit_ti, kit_tb, kit_ts, kit_tl, kit_ll, kit_li, kit_lb, kit_ls, kit_lt, kit_bb, kit_bi, kit_ni, kit_nb, kit_ns, kit_nt, kit_nl, ty_non, ty_bl, ty_int, ty_str, ty_tup,
  leD_int, geD_int, ltD_int, gtD_int, addD_int, subD_int, isD_non, isNotD_non, isD_bl, non_non, non_bl, non_int, non_str, non_tup, non_ref, eqD_int, neD_int, eqD_bl, ixd_tup, len_tup, len_tl, tuple_tl, bg0, bg1, bg2, bg3, bg4, bg5, at0, at1, at2, at3, optR_some,
  List.map_cons, List.map_nil, List.replicate, List.append_nil, List.nil_append, List.cons_append, List.length_cons, List.length_nil, Nat.reduceAdd, Nat.reduceSub, Nat.reduceEqDiff, Nat.reduceLeDiff, if_true, if_false, reduceIte, List.getElem?_cons_zero, List.getElem?_cons_succ, List.set_cons_zero, List.set_cons_succ, Option.bind, Bool.not_true, Bool.not_false, Bool.false_eq_true, beq_self_eq_true, Bool.and_true, Bool.and_false, Bool.true_and, Bool.false_and, Bool.or_true, Bool.or_false, Bool.true_or, Bool.false_or, cst0, cst1, cst2, cst3, cst4, cst5, cst6, Int.reduceLE, Int.reduceLT, Int.reduceBEq, decide_true, decide_false])
/-! how a plan is made -/
structure TreeOk (m k : Nat) (E : List Edg) (kn : List (Option Nat)) (hm : List (List Nat)) : Prop where
  kl : kn.length = k
  hl : hm.length = k
  k1 : 1 ≤ k
  k0 : kn.getD 0 none = none
  h0 : hm.getD 0 [] = []
  kk : ∀ a j, kn.getD a none = some j → j ≤ 2
  hb : ∀ a, a < k → (hm.getD a []).length ≤ a ∧ ∀ s ∈ hm.getD a [], s < m
  ed : ∀ a s b es, ((a, s), (b, es)) ∈ E → a < b ∧ b < k ∧ s < m ∧ es.length ≤ 2 ∧ (∀ e ∈ es, evOk m e) ∧ mb (kn.getD a none) es = some (kn.getD b none) ∧ hm.getD b [] = hm.getD a [] ++ [s]
  nd : (E.map (·.1)).Nodup
  into : ∀ b, 0 < b → b < k → ∃ a s es, ((a, s), (b, es)) ∈ E
  free : ∀ a, a < k → ∃ s, s < m ∧ (a, s) ∉ E.map (·.1)
theorem TreeOk.start {m : Nat} (h : 2 ≤ m) : TreeOk m 1 [] [none] [[]] := by
  refine ⟨rfl, rfl, Nat.le_refl 1, rfl, rfl, fun a j h => ?_, fun a ha => ?_, fun a s b es h => (nomatch h), by simp, fun b h1 h2 => by omega, fun a ha => ⟨0, by omega, by simp⟩⟩
  · cases a with
    | zero => simp at h
    | succ a => simp at h
  · have : a = 0 := by omega
    subst this
    simp
theorem getD_snoc_lt {α : Type} {l : List α} {x d : α} {i : Nat} (h : i < l.length) : (l ++ [x]).getD i d = l.getD i d := by
  rw [List.getD_eq_getElem?_getD, List.getD_eq_getElem?_getD, List.getElem?_append_left h]
theorem getD_snoc_eq {α : Type} {l : List α} {x d : α} : (l ++ [x]).getD l.length d = x := by
  rw [List.getD_eq_getElem?_getD]
  simp
theorem TreeOk.step {m k : Nat} {E : List Edg} {kn : List (Option Nat)} {hm : List (List Nat)} (t : TreeOk m k E kn hm) {a s : Nat} {c : Option Nat} {es : List Evt} (ha : a < k) (hs : s < m) (hn : (a, s) ∉ E.map (·.1))
    (h2 : ∃ s', s' < m ∧ s' ≠ s ∧ (a, s') ∉ E.map (·.1)) (hc : ∀ j, c = some j → j ≤ 2) (he : es.length ≤ 2) (hev : ∀ e ∈ es, evOk m e) (hmb : mb (kn.getD a none) es = some c) :
    TreeOk m (k + 1) (E ++ [((a, s), (k, es))]) (kn ++ [c]) (hm ++ [hm.getD a [] ++ [s]]) := by
  have kl := t.kl
  have hl := t.hl
  have k1 := t.k1
  have gk : ∀ i, i < k → (kn ++ [c]).getD i none = kn.getD i none := fun i hi => getD_snoc_lt (by omega)
  have gh : ∀ i, i < k → (hm ++ [hm.getD a [] ++ [s]]).getD i [] = hm.getD i [] := fun i hi => getD_snoc_lt (by omega)
  have gkk : (kn ++ [c]).getD k none = c := by rw [← kl]; exact getD_snoc_eq
  have ghk : (hm ++ [hm.getD a [] ++ [s]]).getD k [] = hm.getD a [] ++ [s] := by
    have := getD_snoc_eq (l := hm) (x := hm.getD a [] ++ [s]) (d := [])
    rw [hl] at this
    exact this
  refine ⟨by simp [kl], by simp [hl], by omega, by rw [gk 0 (by omega)]; exact t.k0, by rw [gh 0 (by omega)]; exact t.h0, fun i j h => ?_, fun i hi => ?_, fun a' s' b es' h => ?_, ?_, fun b hb0 hb => ?_, fun i hi => ?_⟩
  · by_cases q : i < k
    · rw [gk i q] at h; exact t.kk i j h
    · by_cases q2 : i = k
      · rw [q2, gkk] at h; exact hc j h
      · rw [List.getD_eq_getElem?_getD, List.getElem?_eq_none (by simp; omega)] at h
        cases h
  · by_cases q : i < k
    · rw [gh i q]; exact t.hb i q
    · have q2 : i = k := by omega
      obtain ⟨g1, g2⟩ := t.hb a ha
      rw [q2, ghk]
      refine ⟨by rw [List.length_append, List.length_singleton]; omega, fun x hx => ?_⟩
      rcases List.mem_append.mp hx with hx | hx
      · exact g2 x hx
      · rw [List.mem_singleton.mp hx]; exact hs
  · rcases List.mem_append.mp h with h | h
    · obtain ⟨g1, g2, g3, g4, g5, g6, g7⟩ := t.ed a' s' b es' h
      rw [gk a' (by omega), gk b g2, gh a' (by omega), gh b g2]
      exact ⟨g1, by omega, g3, g4, g5, g6, g7⟩
    · have h' := List.mem_singleton.mp h
      cases h'
      rw [gk _ ha, gkk, gh _ ha, ghk]
      exact ⟨ha, by omega, hs, he, hev, hmb, rfl⟩
  · rw [List.map_append, List.nodup_append]
    refine ⟨t.nd, by simp, fun x hx y hy e => ?_⟩
    have : y = (a, s) := by simpa using hy
    rw [e, this] at hx
    exact hn hx
  · by_cases q : b < k
    · obtain ⟨a', s', es', h⟩ := t.into b hb0 q
      exact ⟨a', s', es', List.mem_append_left _ h⟩
    · have : b = k := by omega
      subst this
      exact ⟨a, s, es, List.mem_append_right _ (List.mem_singleton.mpr rfl)⟩
  · by_cases q : i = a
    · subst q
      obtain ⟨s', g1, g2, g3⟩ := h2
      refine ⟨s', g1, fun h => ?_⟩
      rw [List.map_append] at h
      rcases List.mem_append.mp h with h | h
      · exact g3 h
      · have : (i, s') = (i, s) := by simpa using h
        cases this
        exact g2 rfl
    · by_cases q2 : i < k
      · obtain ⟨s', g1, g2⟩ := t.free i q2
        refine ⟨s', g1, fun h => ?_⟩
        rw [List.map_append] at h
        rcases List.mem_append.mp h with h | h
        · exact g2 h
        · have : (i, s') = (a, s) := by simpa using h
          cases this
          exact q rfl
      · have : i = k := by omega
        subst this
        refine ⟨s, hs, fun h => ?_⟩
        rw [List.map_append] at h
        rcases List.mem_append.mp h with h | h
        · obtain ⟨e, h1, h2⟩ := List.mem_map.mp h
          obtain ⟨⟨a', s'⟩, b, es'⟩ := e
          have := t.ed a' s' b es' h1
          cases h2
          omega
        · have : (i, s) = (a, s) := by simpa using h
          cases this
          omega
/-- few of the signs are taken: one more is free -/
theorem free_two {m s : Nat} (p : Nat → Bool) (hs : s < m) (hl : ((List.range m).filter p).length < m - 1) : ∃ s', s' < m ∧ s' ≠ s ∧ p s' = false := by
  apply Classical.byContradiction
  intro hn
  have h : ∀ t, t < m → t ≠ s → p t = true := fun t ht hts => by
    cases e : p t with
    | true => rfl
    | false => exact (hn ⟨t, ht, hts, e⟩).elim
  have h1 : ((List.range m).erase s).length = m - 1 := by rw [List.length_erase_of_mem (List.mem_range.mpr hs), List.length_range]
  rw [List.nodup_range.erase_eq_filter] at h1
  have h2 : ((List.range m).filter fun x => x != s).length ≤ ((List.range m).filter p).length := by
    rw [← List.countP_eq_length_filter, ← List.countP_eq_length_filter]
    apply List.countP_mono_left
    intro x hx hq
    exact h x (List.mem_range.mp hx) (by simpa using hq)
  omega
structure PlanB (m n j f : Nat) (E : List Edg) (kn : List (Option Nat)) (hm : List (List Nat)) : Prop where
  kl : kn.length = n
  hl : hm.length = n
  n1 : 1 ≤ n
  k0 : kn.getD 0 none = none
  h0 : hm.getD 0 [] = []
  kk : ∀ a j, kn.getD a none = some j → j ≤ 2
  hb : ∀ a, a < n → (hm.getD a []).length ≤ a ∧ ∀ s ∈ hm.getD a [], s < m
  ed : ∀ a s b es, ((a, s), (b, es)) ∈ E → a < n ∧ s < m ∧ b < n ∧ es.length ≤ 2 ∧ (∀ e ∈ es, evOk m e) ∧ mb (kn.getD a none) es = some (kn.getD b none) ∧ (b ≠ 0 → hm.getD b [] = hm.getD a [] ++ [s])
  nd : (E.map (·.1)).Nodup
  into : ∀ b, 0 < b → b < n → ∃ a s es, ((a, s), (b, es)) ∈ E ∧ a < b
  back : ∀ a, a < j → ∃ s es, ((a, s), (0, es)) ∈ E
  free : ∀ a, f ≤ a → a < n → ∃ s, s < m ∧ (a, s) ∉ E.map (·.1)
theorem TreeOk.planB {m k : Nat} {E : List Edg} {kn : List (Option Nat)} {hm : List (List Nat)} (t : TreeOk m k E kn hm) : PlanB m k 0 0 E kn hm := by
  refine ⟨t.kl, t.hl, t.k1, t.k0, t.h0, t.kk, t.hb, fun a s b es h => ?_, t.nd, fun b h0 hb => ?_, fun a ha => by omega, fun a _ ha => t.free a ha⟩
  · obtain ⟨g1, g2, g3, g4, g5, g6, g7⟩ := t.ed a s b es h
    exact ⟨by omega, g3, g2, g4, g5, g6, fun _ => g7⟩
  · obtain ⟨a, s, es, h⟩ := t.into b h0 hb
    exact ⟨a, s, es, h, (t.ed a s b es h).1⟩
theorem PlanB.planOk {m n : Nat} {E : List Edg} {kn : List (Option Nat)} {hm : List (List Nat)} (p : PlanB m n n n E kn hm) (m2 : 2 ≤ m) (m6 : m ≤ 6) (n8 : n ≤ 8) : PlanOk m n E kn hm :=
  ⟨m2, m6, p.n1, n8, p.kl, p.hl, p.k0, p.h0, p.hb, p.ed, p.nd, p.into, p.back⟩
theorem PlanB.weak {m n j f f' : Nat} {E : List Edg} {kn : List (Option Nat)} {hm : List (List Nat)} (p : PlanB m n j f E kn hm) (h : f ≤ f') : PlanB m n j f' E kn hm :=
  ⟨p.kl, p.hl, p.n1, p.k0, p.h0, p.kk, p.hb, p.ed, p.nd, p.into, p.back, fun a h1 h2 => p.free a (Nat.le_trans h h1) h2⟩
theorem PlanB.next {m n j f : Nat} {E : List Edg} {kn : List (Option Nat)} {hm : List (List Nat)} (p : PlanB m n j f E kn hm) (h : ∃ s es, ((j, s), (0, es)) ∈ E) : PlanB m n (j + 1) f E kn hm :=
  ⟨p.kl, p.hl, p.n1, p.k0, p.h0, p.kk, p.hb, p.ed, p.nd, p.into, fun a ha => by
    by_cases q : a = j
    · subst q; exact h
    · exact p.back a (by omega), p.free⟩
theorem PlanB.add {m n j : Nat} {E : List Edg} {kn : List (Option Nat)} {hm : List (List Nat)} (p : PlanB m n j (j + 1) E kn hm) {s : Nat} {es : List Evt} (hj : j < n) (hs : s < m) (hn : (j, s) ∉ E.map (·.1)) (he : es.length ≤ 2) (hev : ∀ e ∈ es, evOk m e) (hmb : mb (kn.getD j none) es = some none) :
    PlanB m n j (j + 1) (E ++ [((j, s), (0, es))]) kn hm := by
  refine ⟨p.kl, p.hl, p.n1, p.k0, p.h0, p.kk, p.hb, fun a' s' b es' h => ?_, ?_, fun b h0 hb => ?_, fun a ha => ?_, fun a h1 h2 => ?_⟩
  · rcases List.mem_append.mp h with h | h
    · exact p.ed a' s' b es' h
    · have h' := List.mem_singleton.mp h
      cases h'
      rw [p.k0]
      exact ⟨hj, hs, p.n1, he, hev, hmb, fun q => (q rfl).elim⟩
  · rw [List.map_append, List.nodup_append]
    refine ⟨p.nd, by simp, fun x hx y hy e => ?_⟩
    have : y = (j, s) := by simpa using hy
    rw [e, this] at hx
    exact hn hx
  · obtain ⟨a, s', es', h, g⟩ := p.into b h0 hb
    exact ⟨a, s', es', List.mem_append_left _ h, g⟩
  · obtain ⟨s', es', h⟩ := p.back a ha
    exact ⟨s', es', List.mem_append_left _ h⟩
  · obtain ⟨s', g1, g2⟩ := p.free a h1 h2
    refine ⟨s', g1, fun h => ?_⟩
    rw [List.map_append] at h
    rcases List.mem_append.mp h with h | h
    · exact g2 h
    · have : (a, s') = (j, s) := by simpa using h
      cases this
      omega

end K0
namespace K0
open PySem L2 PyProof.Rows Ev
local macro_rules | `(tactic| walk_at "ev") => `(tactic| simp only [sFor_eq, sSeq, sRet, sRetN, sIf, sAsg, sExpr, sNext, sPar, sPar3, sCont, sBreak, sNever, eAndM, eOrM, eNotM, eIf, eChain, eOp, eUn, eC, eV, eCall, eIsi, eIsiT, kitAnyB, eTup, eLst, eBi1, aNil, aCons, tVal, tTru, tNotM, tAndM, tOrM, asB, truB, blR, gNm, iAny, bind_ok, bind_no, force_d, force_tl, force_no, gcR_same, walk_tup, walk_tl, walk_str,
  kit_ii, kit_ib, kit_is, kit_it, kit_il, kit_ss, kit_si, kit_sb, kit_st, kit_sl, kit_tt, kit_ti, kit_tb, kit_ts, kit_tl, kit_ll, kit_li, kit_lb, kit_ls, kit_lt, kit_bb, kit_bi, kit_ni, kit_nb, kit_ns, kit_nt, kit_nl, ty_non, ty_bl, ty_int, ty_str, ty_tup,
  leD_int, geD_int, ltD_int, gtD_int, addD_int, subD_int, isD_non, isNotD_non, isD_bl, non_non, non_bl, non_int, non_str, non_tup, non_ref, eqD_int, neD_int, eqD_bl, ixd_tup, len_tup, len_tl, tuple_tl, bg0, bg1, bg2, bg3, bg4, bg5, at0, at1, at2, at3, optR_some,
  List.map_cons, List.map_nil, List.replicate, List.append_nil, List.nil_append, List.cons_append, List.length_cons, List.length_nil, Nat.reduceAdd, Nat.reduceSub, Nat.reduceEqDiff, Nat.reduceLeDiff, if_true, if_false, reduceIte, List.getElem?_cons_zero, List.getElem?_cons_succ, List.set_cons_zero, List.set_cons_succ, Option.bind, Bool.not_true, Bool.not_false, Bool.false_eq_true, beq_self_eq_true, Bool.and_true, Bool.and_false, Bool.true_and, Bool.false_and, Bool.or_true, Bool.or_false, Bool.true_or, Bool.false_or, cst0, cst1, cst2, cst3, cst4, cst5, cst6, Int.reduceLE, Int.reduceLT, Int.reduceBEq, decide_true, decide_false])
/-! items: marks, and fields with what is said in them -/
inductive Itm where
  | mark (n : Nat) | fld (k : Nat) (s : List Nat)
def Itm.D : Itm → D
  | .mark n => (Evt.mark n).D
  | .fld k s => fieldD (some k) s
abbrev ImS := List Itm × Nat × List Nat
def imStep : ImS → Evt → ImS
  | (f, k, s), .mark n => (f ++ [.mark n], k, s)
  | (f, _, _), .opn j => (f, j, [])
  | (f, k, s), .say c => (f, k, s ++ [c])
  | (f, k, s), .shut => (f ++ [.fld k s], k, s)
def itm (es : List Evt) : List Itm := (es.foldl imStep ([], 0, [])).1
def flatI : Itm → List Evt
  | .mark n => [.mark n]
  | .fld k s => .opn k :: (s.map .say ++ [.shut])
/-- what of a field is open -/
def openI : Option Nat → List Nat → List Evt
  | none, _ => []
  | some k, s => .opn k :: s.map .say
theorem imStep_len (st : ImS) (e : Evt) : (imStep st e).1.length ≤ st.1.length + 1 ∧ (imStep st e).2.2.length ≤ st.2.2.length + 1 := by
  obtain ⟨f, k, s⟩ := st
  cases e <;> simp [imStep]
theorem itm_flat_go : ∀ (es : List Evt) (md : Option Nat) (f : List Itm) (k : Nat) (s : List Nat), (∀ j, md = some j → k = j) → mb md es = some none → (es.foldl imStep (f, k, s)).1.flatMap flatI = f.flatMap flatI ++ openI md s ++ es
  | [], md, f, k, s, hk, h => by
    cases h
    simp [openI]
  | e :: es, md, f, k, s, hk, h => by
    rw [List.foldl_cons]
    cases e <;> cases md <;> simp only [mb] at h <;> first | cases h | skip
    all_goals (try (cases h))
    · rename_i n
      simp only [imStep]
      rw [itm_flat_go es none _ k s (fun j q => by cases q) h]
      simp [openI, flatI]
    · rename_i j
      simp only [imStep]
      rw [itm_flat_go es (some j) f j [] (fun i q => by cases q; rfl) h]
      simp [openI]
    · rename_i c j
      have := hk j rfl
      subst this
      simp only [imStep]
      rw [itm_flat_go es (some k) f k (s ++ [c]) (fun i q => by cases q; rfl) h]
      simp [openI]
    · rename_i j
      have := hk j rfl
      subst this
      simp only [imStep]
      rw [itm_flat_go es none _ k s (fun i q => by cases q) h]
      simp [openI, flatI]
theorem itm_flat {es : List Evt} (h : mb none es = some none) : (itm es).flatMap flatI = es := by
  unfold itm
  rw [itm_flat_go es none [] 0 [] (fun j q => by cases q) h]
  rfl
theorem itm_pre : ∀ (es : List Evt) (md : Option Nat) (f : List Itm) (k k' : Nat) (s s' : List Nat), (∀ j, md = some j → k = k' ∧ s = s') → mb md es ≠ none → (es.foldl imStep (f, k, s)).1 = f ++ (es.foldl imStep ([], k', s')).1
  | [], md, f, k, k', s, s', hk, h => by simp
  | e :: es, md, f, k, k', s, s', hk, h => by
    rw [List.foldl_cons, List.foldl_cons]
    cases e <;> cases md <;> simp only [mb] at h <;> first | exact absurd rfl h | skip
    · simp only [imStep]
      rw [itm_pre es none _ k k' s s' (fun j q => by cases q) h, itm_pre es none ([] ++ _) k' k' s' s' (fun j q => by cases q) h, List.nil_append, List.append_assoc]
    · rename_i j
      simp only [imStep]
      exact itm_pre es (some j) f j j [] [] (fun i q => ⟨rfl, rfl⟩) h
    · rename_i c j
      obtain ⟨rfl, rfl⟩ := hk j rfl
      simp only [imStep]
      exact itm_pre es (some j) f k k _ _ (fun i q => ⟨rfl, rfl⟩) h
    · rename_i j
      obtain ⟨rfl, rfl⟩ := hk j rfl
      simp only [imStep]
      rw [itm_pre es none _ k k s s (fun j q => by cases q) h, itm_pre es none ([] ++ _) k k s s (fun j q => by cases q) h, List.nil_append, List.append_assoc]
theorem itm_app {a b : List Evt} (ha : mb none a = some none) (hb : mb none b ≠ none) : itm (a ++ b) = itm a ++ itm b := by
  unfold itm
  rw [List.foldl_append]
  obtain ⟨⟨f, k, s⟩, e⟩ : ∃ x, x = a.foldl imStep ([], 0, []) := ⟨_, rfl⟩
  rw [← e]
  exact itm_pre b none f k 0 s [] (fun j q => by cases q) hb
theorem items_itm_go : ∀ (es : List Evt) (md : Option Nat) (f : List Itm) (k : Nat) (k' : Option Nat) (s s' : List Nat), (∀ j, md = some j → k' = some k ∧ s = s') → mb md es ≠ none → (es.foldl itStep (f.map Itm.D, k', s')).1 = ((es.foldl imStep (f, k, s)).1).map Itm.D
  | [], md, f, k, k', s, s', hk, h => rfl
  | e :: es, md, f, k, k', s, s', hk, h => by
    rw [List.foldl_cons, List.foldl_cons]
    cases e <;> cases md <;> simp only [mb] at h <;> first | exact absurd rfl h | skip
    · simp only [imStep, itStep]
      rename_i n
      have := items_itm_go es none (f ++ [Itm.mark n]) k k' s s' (fun j q => by cases q) h
      rw [List.map_append] at this
      exact this
    · rename_i j
      simp only [imStep, itStep]
      exact items_itm_go es (some j) f j (some j) [] [] (fun i q => ⟨rfl, rfl⟩) h
    · rename_i c j
      obtain ⟨rfl, rfl⟩ := hk j rfl
      simp only [imStep, itStep]
      exact items_itm_go es (some j) f k (some k) _ _ (fun i q => ⟨rfl, rfl⟩) h
    · rename_i j
      obtain ⟨rfl, rfl⟩ := hk j rfl
      simp only [imStep, itStep]
      have := items_itm_go es none (f ++ [Itm.fld k s]) k (some k) s s (fun j q => by cases q) h
      rw [List.map_append] at this
      exact this
theorem items_itm {es : List Evt} (h : mb none es ≠ none) : itemsL es = (itm es).map Itm.D := items_itm_go es none [] 0 none [] [] (fun j q => by cases q) h

end K0
namespace K0
open PySem L2 PyProof.Rows Ev
local macro_rules | `(tactic| walk_at "ev") => `(tactic| simp only [sFor_eq, sSeq, sRet, sRetN, sIf, sAsg, sExpr, sNext, sPar, sPar3, sCont, sBreak, sNever, eAndM, eOrM, eNotM, eIf, eChain, eOp, eUn, eC, eV, eCall, eIsi, eIsiT, kitAnyB, eTup, eLst, eBi1, aNil, aCons, tVal, tTru, tNotM, tAndM, tOrM, asB, truB, blR, gNm, iAny, bind_ok, bind_no, force_d, force_tl, force_no, gcR_same, walk_tup, walk_tl, walk_str,
  kit_ii, kit_ib, kit_is, kit_it, kit_il, kit_ss, kit_si, kit_sb, kit_st, kit_sl, kit_tt, kit_ti, kit_tb, kit_ts, kit_tl, kit_ll, kit_li, kit_lb, kit_ls, kit_lt, kit_bb, kit_bi, kit_ni, kit_nb, kit_ns, kit_nt, kit_nl, ty_non, ty_bl, ty_int, ty_str, ty_tup,
  leD_int, geD_int, ltD_int, gtD_int, addD_int, subD_int, isD_non, isNotD_non, isD_bl, non_non, non_bl, non_int, non_str, non_tup, non_ref, eqD_int, neD_int, eqD_bl, ixd_tup, len_tup, len_tl, tuple_tl, bg0, bg1, bg2, bg3, bg4, bg5, at0, at1, at2, at3, optR_some,
  List.map_cons, List.map_nil, List.replicate, List.append_nil, List.nil_append, List.cons_append, List.length_cons, List.length_nil, Nat.reduceAdd, Nat.reduceSub, Nat.reduceEqDiff, Nat.reduceLeDiff, if_true, if_false, reduceIte, List.getElem?_cons_zero, List.getElem?_cons_succ, List.set_cons_zero, List.set_cons_succ, Option.bind, Bool.not_true, Bool.not_false, Bool.false_eq_true, beq_self_eq_true, Bool.and_true, Bool.and_false, Bool.true_and, Bool.false_and, Bool.or_true, Bool.or_false, Bool.true_or, Bool.false_or, cst0, cst1, cst2, cst3, cst4, cst5, cst6, Int.reduceLE, Int.reduceLT, Int.reduceBEq, decide_true, decide_false])
/-! boxes and stores -/
abbrev LIM : Nat := 10000000000
def Bs (b : Nat) (S : Sto) (n : Nat) : Prop := ∃ x, S[b]? = some (boxO x) ∧ BxOk x n
theorem BxOk.mono {x : Bx} {n n' : Nat} (h : BxOk x n) (hn : n ≤ n') : BxOk x n' := ⟨h.a0, h.m0, h.m1, Nat.le_trans h.cn hn⟩
theorem Bs.mono {b : Nat} {S : Sto} {n n' : Nat} (h : Bs b S n) (hn : n ≤ n') : Bs b S n' := by
  obtain ⟨x, h1, h2⟩ := h
  exact ⟨x, h1, h2.mono hn⟩
theorem Bs.lt {b : Nat} {S : Sto} {n : Nat} (h : Bs b S n) : b < S.length := by
  obtain ⟨x, h1, h2⟩ := h
  exact (List.getElem?_eq_some_iff.mp h1).1
/-- objects below S.length but the box stand as they were -/
structure Fr (b : Nat) (S S1 : Sto) (n : Nat) : Prop where
  box : Bs b S1 n
  len : S.length ≤ S1.length
  keep : ∀ p, p < S.length → p ≠ b → S1[p]? = S[p]?
/-- the box alone was changed -/
structure Bm (b : Nat) (S S1 : Sto) (n : Nat) : Prop where
  box : Bs b S1 n
  len : S1.length = S.length
  keep : ∀ p, p ≠ b → S1[p]? = S[p]?
theorem Bm.fr {b : Nat} {S S1 : Sto} {n : Nat} (h : Bm b S S1 n) : Fr b S S1 n := ⟨h.box, by rw [h.len]; exact Nat.le_refl _, fun p _ hp => h.keep p hp⟩
theorem Bm.mono {b : Nat} {S S1 : Sto} {n n' : Nat} (h : Bm b S S1 n) (hn : n ≤ n') : Bm b S S1 n' := ⟨h.box.mono hn, h.len, h.keep⟩
theorem Fr.mono {b : Nat} {S S1 : Sto} {n n' : Nat} (h : Fr b S S1 n) (hn : n ≤ n') : Fr b S S1 n' := ⟨h.box.mono hn, h.len, h.keep⟩
theorem Bm.refl {b : Nat} {S : Sto} {n : Nat} (h : Bs b S n) : Bm b S S n := ⟨h, rfl, fun _ _ => rfl⟩
theorem Fr.refl {b : Nat} {S : Sto} {n : Nat} (h : Bs b S n) : Fr b S S n := (Bm.refl h).fr
theorem Bm.trans {b : Nat} {S S1 S2 : Sto} {n n' : Nat} (h : Bm b S S1 n) (k : Bm b S1 S2 n') : Bm b S S2 n' := ⟨k.box, by rw [k.len, h.len], fun p hp => by rw [k.keep p hp, h.keep p hp]⟩
theorem Fr.trans {b : Nat} {S S1 S2 : Sto} {n n' : Nat} (h : Fr b S S1 n) (k : Fr b S1 S2 n') : Fr b S S2 n' := ⟨k.box, Nat.le_trans h.len k.len, fun p hl hp => by rw [k.keep p (Nat.lt_of_lt_of_le hl h.len) hp, h.keep p hl hp]⟩
theorem Bm.at_ {b : Nat} {S S1 : Sto} {n p : Nat} {o : O} (h : Bm b S S1 n) (hp : S[p]? = some o) (hb : p ≠ b) : S1[p]? = some o := by rw [h.keep p hb]; exact hp
theorem Fr.at_ {b : Nat} {S S1 : Sto} {n p : Nat} {o : O} (h : Fr b S S1 n) (hp : S[p]? = some o) (hb : p ≠ b) : S1[p]? = some o := by rw [h.keep p (List.getElem?_eq_some_iff.mp hp).1 hb]; exact hp
theorem Bs.app {b : Nat} {S : Sto} {n : Nat} (h : Bs b S n) (E : Sto) : Bs b (S ++ E) n := by
  obtain ⟨x, h1, h2⟩ := h
  exact ⟨x, by rw [List.getElem?_append_left (List.getElem?_eq_some_iff.mp h1).1]; exact h1, h2⟩
/-- something new -/
theorem Fr.app {b : Nat} {S S1 : Sto} {n : Nat} (h : Fr b S S1 n) (E : Sto) : Fr b S (S1 ++ E) n := ⟨h.box.app E, by rw [List.length_append]; exact Nat.le_trans h.len (Nat.le_add_right _ _), fun p hl hp => by rw [List.getElem?_append_left (Nat.lt_of_lt_of_le hl h.len)]; exact h.keep p hl hp⟩
/-- something that was made is changed -/
theorem Fr.put {b : Nat} {S S1 : Sto} {n p : Nat} (h : Fr b S S1 n) (o : O) (hp : S.length ≤ p) (hb : b < S.length) : Fr b S (S1.set p o) n := by
  obtain ⟨x, h1, h2⟩ := h.box
  refine ⟨⟨x, ?_, h2⟩, by rw [List.length_set]; exact h.len, fun q hl hq => ?_⟩
  · rw [List.getElem?_set_ne (by omega)]; exact h1
  · rw [List.getElem?_set_ne (by omega)]; exact h.keep q hl hq
theorem Fr.gc {b : Nat} {S S1 : Sto} {n : Nat} {v : XR} (h : Fr b S S1 n) (hb : b < S.length) (hv : clX S.length v = true) : ∃ S2, gcR S v S1 = .ok v S2 ∧ Bm b S S2 n := by
  obtain ⟨x, h1, h2⟩ := h.box
  refine ⟨S.set b (boxO x), gcR_set hv h.len h1 (by simp [boxO, clO, clD, clDs]) h.keep hb, ⟨x, List.getElem?_set_self hb, h2⟩, List.length_set .., fun p hp => List.getElem?_set_ne (Ne.symm hp)⟩
theorem Bm.gc {b : Nat} {S S1 : Sto} {n : Nat} {v : XR} (h : Bm b S S1 n) : gcR S v S1 = .ok v S1 := by
  unfold gcR
  split
  · rw [← h.len, List.take_length]
  · rfl
theorem take_B {b n : Nat} {S : Sto} (h : Bs b S n) (hn : n < LIM) {many : Nat} (h0 : 0 < many) (h1 : many ≤ 1000) :
    ∃ (t : Nat) (S1 : Sto), t < many ∧ f__law_take [.ref b, .int many] S = .ok (.d (.int t)) S1 ∧ Bm b S S1 (n + 1) := by
  have hb := h.lt
  obtain ⟨x, g, ok⟩ := h
  obtain ⟨t, x', ht, ok', e⟩ := take_ok g ok (Nat.lt_trans hn (by decide)) h0 h1
  exact ⟨t, _, ht, e, ⟨x', List.getElem?_set_self hb, ok'⟩, List.length_set .., fun p hp => List.getElem?_set_ne (Ne.symm hp)⟩
theorem pick_B {b p n : Nat} {S : Sto} {ds : List D} (h : Bs b S n) (hp : S[p]? = some (.lst ds)) (hbp : p ≠ b) (hn : n < LIM) (h0 : ds ≠ []) (h1 : ds.length ≤ 1000) (hcl : clDs S.length ds = true) :
    ∃ (t : Nat) (d : D) (S1 : Sto), ds[t]? = some d ∧ f__law_pick [.ref b, .ref p] S = .ok (.d d) S1 ∧ Bm b S S1 (n + 1) := by
  have hb := h.lt
  obtain ⟨x, g, ok⟩ := h
  obtain ⟨t, d, x', ht, ok', e⟩ := pick_ok g hp hbp ok (Nat.lt_trans hn (by decide)) h0 h1 hcl
  exact ⟨t, d, _, ht, e, ⟨x', List.getElem?_set_self hb, ok'⟩, List.length_set .., fun p hp => List.getElem?_set_ne (Ne.symm hp)⟩
/-- a just made list is picked from -/
theorem pick_new {b n : Nat} {S : Sto} {ds : List D} (h : Bs b S n) (hn : n < LIM) (h0 : ds ≠ []) (h1 : ds.length ≤ 1000) (hcl : clDs (S.length + 1) ds = true) :
    ∃ (t : Nat) (d : D) (S1 : Sto), ds[t]? = some d ∧ f__law_pick [.ref b, .ref S.length] (S ++ [.lst ds]) = .ok (.d d) S1 ∧ Fr b S S1 (n + 1) := by
  have hb := h.lt
  obtain ⟨t, d, S1, h1, h2, h3⟩ := pick_B (p := S.length) (h.app [.lst ds]) (getElem?_snoc _ _) (by omega) hn h0 h1 (by simpa using hcl)
  exact ⟨t, d, S1, h1, h2, ((Fr.refl h).app [.lst ds]).trans h3.fr⟩
/-! dicts of edges -/
def edD (e : Edg) : D × D := (.tup [iD e.1.1, iD e.1.2], .tup [iD e.2.1, evsD e.2.2])
abbrev edO (E : List Edg) : O := .dct (E.map edD)
theorem key_ed (a s : Nat) : keyOf (.tup [iD a, iD s]) = some (.inr [.inl (a : Int), .inl (s : Int)]) := rfl
theorem isK_ed (a s : Nat) (e : Edg) : isK (.inr [.inl (a : Int), .inl (s : Int)]) (edD e) = decide (e.1 = (a, s)) := by
  unfold isK
  rw [show keyOf (edD e).1 = _ from key_ed e.1.1 e.1.2]
  by_cases h : e.1 = (a, s)
  · rw [h]
    simp
  · rw [decide_eq_false h]
    apply decide_eq_false
    intro q
    apply h
    have q1 := Option.some.inj q
    have q2 := Sum.inr.inj q1
    simp at q2
    exact Prod.ext (by omega) (by omega)
theorem find_ed (E : List Edg) (a s : Nat) : findK (E.map edD) (.inr [.inl (a : Int), .inl (s : Int)]) = (lk E a s).map fun p => .tup [iD p.1, evsD p.2] := by
  unfold findK lk
  induction E with
  | nil => rfl
  | cons e E ih =>
    rw [List.map_cons, List.find?_cons, List.find?_cons, isK_ed]
    cases decide (e.1 = (a, s)) with
    | true => rfl
    | false => exact ih
theorem kind_ed (E : List Edg) (a s : Nat) : kindOk (E.map edD) (.inr [.inl (a : Int), .inl (s : Int)]) = true := by
  cases E <;> rfl
theorem get_ed {E : List Edg} {S : Sto} {n a s : Nat} (h : S[n]? = some (edO E)) : getK S n (.tup [iD a, iD s]) = some ((lk E a s).map fun p => .tup [iD p.1, evsD p.2]) := by
  unfold getK
  rw [key_ed]
  simp only [h, kind_ed, find_ed]
  rfl
theorem get_edR {E : List Edg} {S : Sto} {n a s : Nat} (h : S[n]? = some (.rod (E.map edD))) (h0 : E ≠ []) : getK S n (.tup [iD a, iD s]) = some ((lk E a s).map fun p => .tup [iD p.1, evsD p.2]) := by
  unfold getK
  rw [key_ed]
  have : (E.map edD).isEmpty = false := by cases E with
    | nil => exact absurd rfl h0
    | cons _ _ => rfl
  simp only [h, kind_ed, find_ed, this]
  rfl
theorem listAt_ed {E : List Edg} {S : Sto} {n : Nat} (h : S[n]? = some (edO E)) : Ev.listAt S n = none := by
  unfold Ev.listAt; rw [h]
theorem lk_isSome {E : List Edg} {a s : Nat} : (lk E a s).isSome = decide ((a, s) ∈ E.map (·.1)) := by
  unfold lk
  induction E with
  | nil => rfl
  | cons e E ih =>
    rw [List.find?_cons, List.map_cons]
    by_cases h : e.1 = (a, s)
    · rw [decide_eq_true h, decide_eq_true (by rw [h]; exact List.mem_cons_self ..)]
      rfl
    · rw [decide_eq_false h]
      show (Option.map _ (List.find? _ E)).isSome = _
      rw [ih]
      by_cases h2 : (a, s) ∈ E.map (·.1)
      · rw [decide_eq_true h2, decide_eq_true (List.mem_cons_of_mem _ h2)]
      · rw [decide_eq_false h2, decide_eq_false (fun q => (List.mem_cons.mp q).elim (fun z => h z.symm) h2)]
def hasE (E : List Edg) (a s : Nat) : Bool := decide ((a, s) ∈ E.map (·.1))
theorem in_ed {E : List Edg} {S : Sto} {n a s : Nat} (h : S[n]? = some (edO E)) : inD (.tup [iD a, iD s]) (.ref n) S = .ok (.d (.bl (hasE E a s))) S := by
  unfold inD inB
  simp only [listAt_ed h, get_ed h]
  show blR (some ((lk E a s).map _).isSome) S = _
  rw [Option.isSome_map, lk_isSome]
  rfl
theorem notIn_ed {E : List Edg} {S : Sto} {n a s : Nat} (h : S[n]? = some (edO E)) : notInD (.tup [iD a, iD s]) (.ref n) S = .ok (.d (.bl (!hasE E a s))) S := by
  unfold notInD inB
  simp only [listAt_ed h, get_ed h]
  show blR (some (!((lk E a s).map _).isSome)) S = _
  rw [Option.isSome_map, lk_isSome]
  rfl
theorem ix_ed {E : List Edg} {S : Sto} {n a s : Nat} {p : Nat × List Evt} (h : S[n]? = some (edO E)) (hl : lk E a s = some p) : ixD (.ref n) (.tup [iD a, iD s]) S = .ok (.d (.tup [iD p.1, evsD p.2])) S := by
  show optR ((getK S n (.tup [iD a, iD s])).join) S = _
  rw [get_ed h, hl]
  rfl
theorem ix_edR {E : List Edg} {S : Sto} {n a s : Nat} {p : Nat × List Evt} (h : S[n]? = some (.rod (E.map edD))) (hl : lk E a s = some p) : ixD (.ref n) (.tup [iD a, iD s]) S = .ok (.d (.tup [iD p.1, evsD p.2])) S := by
  show optR ((getK S n (.tup [iD a, iD s])).join) S = _
  rw [get_edR h (fun q => by rw [q] at hl; cases hl), hl]
  rfl
theorem tyD_dct {n : Nat} {kvs : List (D × D)} {S : Sto} (h : S[n]? = some (.dct kvs)) : tyD (.ref n) S = some "dict" := by
  unfold tyD
  simp only [h]
theorem mget_ed {E : List Edg} {S : Sto} {n a s : Nat} (h : S[n]? = some (edO E)) : mGet "dict" (.ref n) [.tup [iD a, iD s]] S = .ok (.d (entD (lk E a s))) S := by
  unfold mGet
  rw [if_pos rfl]
  simp only [get_ed h]
  cases lk E a s <;> rfl
theorem set_ed {E : List Edg} {S : Sto} {n a s b : Nat} {es : List Evt} (h : S[n]? = some (edO E)) (hn : (a, s) ∉ E.map (·.1)) (hl : E.length < 1000) : setD (.ref n) (.tup [iD a, iD s]) (.tup [iD b, evsD es]) S = .ok () (S.set n (edO (E ++ [((a, s), (b, es))]))) := by
  have e1 : Ev.putK (E.map edD) (.inr [.inl (a : Int), .inl (s : Int)]) (.tup [iD a, iD s]) (.tup [iD b, evsD es]) = (E ++ [((a, s), (b, es))]).map edD := by
    unfold Ev.putK
    have : (E.map edD).any (isK (.inr [.inl (a : Int), .inl (s : Int)])) = false := by
      rw [List.any_eq_false]
      intro p hp
      obtain ⟨e, he, rfl⟩ := List.mem_map.mp hp
      rw [isK_ed]
      simp
      intro q
      exact hn (List.mem_map.mpr ⟨e, he, q⟩)
    rw [this, if_neg (by decide), List.map_append]
    rfl
  have e2 : (kindOk (E.map edD) (.inr [.inl (a : Int), .inl (s : Int)]) = true ∧ (E.map edD).length < BIG) := ⟨kind_ed .., by rw [List.length_map]; exact Nat.lt_trans hl (by decide)⟩
  unfold setD
  simp only [h, key_ed]
  rw [if_pos e2, e1]

end K0
namespace K0
open PySem L2 PyProof.Rows Ev
local macro_rules | `(tactic| walk_at "ev") => `(tactic| simp only [sFor_eq, sSeq, sRet, sRetN, sIf, sAsg, sExpr, sNext, sPar, sPar3, sCont, sBreak, sNever, eAndM, eOrM, eNotM, eIf, eChain, eOp, eUn, eC, eV, eCall, eIsi, eIsiT, kitAnyB, eTup, eLst, eBi1, aNil, aCons, tVal, tTru, tNotM, tAndM, tOrM, asB, truB, blR, gNm, iAny, bind_ok, bind_no, force_d, force_tl, force_no, gcR_same, walk_tup, walk_tl, walk_str,
  kit_ii, kit_ib, kit_is, kit_it, kit_il, kit_ss, kit_si, kit_sb, kit_st, kit_sl, kit_tt, kit_ti, kit_tb, kit_ts, kit_tl, kit_ll, kit_li, kit_lb, kit_ls, kit_lt, kit_bb, kit_bi, kit_ni, kit_nb, kit_ns, kit_nt, kit_nl, ty_non, ty_bl, ty_int, ty_str, ty_tup,
  leD_int, geD_int, ltD_int, gtD_int, addD_int, subD_int, isD_non, isNotD_non, isD_bl, non_non, non_bl, non_int, non_str, non_tup, non_ref, eqD_int, neD_int, eqD_bl, ixd_tup, len_tup, len_tl, tuple_tl, bg0, bg1, bg2, bg3, bg4, bg5, at0, at1, at2, at3, optR_some,
  List.map_cons, List.map_nil, List.replicate, List.append_nil, List.nil_append, List.cons_append, List.length_cons, List.length_nil, Nat.reduceAdd, Nat.reduceSub, Nat.reduceEqDiff, Nat.reduceLeDiff, if_true, if_false, reduceIte, List.getElem?_cons_zero, List.getElem?_cons_succ, List.set_cons_zero, List.set_cons_succ, Option.bind, Bool.not_true, Bool.not_false, Bool.false_eq_true, beq_self_eq_true, Bool.and_true, Bool.and_false, Bool.true_and, Bool.false_and, Bool.or_true, Bool.or_false, Bool.true_or, Bool.false_or, cst0, cst1, cst2, cst3, cst4, cst5, cst6, Int.reduceLE, Int.reduceLT, Int.reduceBEq, decide_true, decide_false])
/-! events from a mode to a mode -/
theorem ix_alpha {s : Nat} (h : s < 6) {S : Sto} : ixD (.str "abcdef") (.int (s : Int)) S = .ok (.d (.str (tx [s]))) S := by
  match s, h with
  | 0, _ => rfl
  | 1, _ => rfl
  | 2, _ => rfl
  | 3, _ => rfl
  | 4, _ => rfl
  | 5, _ => rfl
theorem len3 : ([D.non, D.non, D.non] : List D).length = 3 := rfl
theorem cl_tups (n : Nat) (l : List (List Evt)) : clDs n (l.map evsD) = true := by
  induction l with
  | nil => rfl
  | cons a l ih => rw [List.map_cons]; simp only [clDs, cl_evsD, ih]; rfl
theorem ne_int {a b : Nat} {S : Sto} : neD (modeD (some a)) (modeD (some b)) S = .ok (.d (.bl (!((a : Int) == (b : Int))))) S := rfl
theorem law_events_ok {b n m : Nat} {one other : Option Nat} {S : Sto} (hB : Bs b S n) (hn : n + 8 < LIM) (h0 : 0 < m) (hm : m ≤ 6) (h1 : ∀ j, one = some j → j ≤ 2) (h2 : ∀ j, other = some j → j ≤ 2) :
    ∃ (es : List Evt) (S1 : Sto), es.length ≤ 2 ∧ (∀ e ∈ es, evOk m e) ∧ mb one es = some other ∧ f__law_events [.ref b, .int m, modeD one, modeD other] S = .ok (.d (evsD es)) S1 ∧ Bm b S S1 (n + 6) := by
  obtain ⟨t1, S1, ht1, e1, B1⟩ := take_B hB (by omega) h0 (many := m) (by omega)
  obtain ⟨t2, S2, ht2, e2, B2⟩ := take_B B1.box (by omega) h0 (many := m) (by omega)
  obtain ⟨t3, S3, ht3, e3, B3⟩ := take_B B2.box (by omega) (show 0 < 6 by decide) (by omega)
  obtain ⟨t4, S4, ht4, e4, B4⟩ := take_B B3.box (by omega) (show 0 < 6 by decide) (by omega)
  obtain ⟨t5, S5, ht5, e5, B5⟩ := take_B B4.box (by omega) (show 0 < 3 by decide) (by omega)
  have BB4 := ((B1.trans B2).trans B3).trans B4
  have BB5 := BB4.trans B5
  have a1 : ∀ S : Sto, ixD (.str "abcdef") (.int (t1 : Int)) S = .ok (.d (.str (tx [t1]))) S := fun S => ix_alpha (by omega)
  have a2 : ∀ S : Sto, ixD (.str "abcdef") (.int (t2 : Int)) S = .ok (.d (.str (tx [t2]))) S := fun S => ix_alpha (by omega)
  have e3' : f__law_take [.ref b, .int 6] S2 = .ok (.d (.int (t3 : Int))) S3 := e3
  have e4' : f__law_take [.ref b, .int 6] S3 = .ok (.d (.int (t4 : Int))) S4 := e4
  have e5' : f__law_take [.ref b, .int 3] S4 = .ok (.d (.int (t5 : Int))) S5 := e5
  have say1 : evOk m (.say t1) := ht1
  have say2 : evOk m (.say t2) := ht2
  have mk3 : evOk m (.mark t3) := by show t3 ≤ 5; omega
  have mk4 : evOk m (.mark t4) := by show t4 ≤ 5; omega
  have op5 : evOk m (.opn t5) := by show t5 ≤ 2; omega
  have sh : evOk m .shut := True.intro
  -- a drawn one of several
  have pk : ∀ (L : List (List Evt)) (T : Sto) (k : Nat), Bm b S T k → k ≤ n + 5 → L ≠ [] → L.length ≤ 10 → (∀ es ∈ L, es.length ≤ 2 ∧ (∀ e ∈ es, evOk m e) ∧ mb one es = some other) →
      ∃ es S1, es.length ≤ 2 ∧ (∀ e ∈ es, evOk m e) ∧ mb one es = some other ∧ f__law_pick [.ref b, .ref T.length] (T ++ [.lst (L.map evsD)]) = .ok (.d (evsD es)) S1 ∧ ∃ S9, gcR S (.d (evsD es)) S1 = .ok (.d (evsD es)) S9 ∧ Bm b S S9 (n + 6) := by
    intro L T k hT hk hL hl hall
    obtain ⟨t, d, S1, g1, g2, g3⟩ := pick_new (ds := L.map evsD) hT.box (by omega) (by simpa using hL) (by simp; omega) (cl_tups _ L)
    rw [List.getElem?_map] at g1
    obtain ⟨es, q1, rfl⟩ := Option.map_eq_some_iff.mp g1
    obtain ⟨q2, q3, q4⟩ := hall es (List.mem_of_getElem? q1)
    obtain ⟨S9, q5, q6⟩ := ((hT.fr.trans g3).mono (show k + 1 ≤ n + 6 by omega)).gc (v := .d (evsD es)) hB.lt (cl_evsD _ es)
    exact ⟨es, S1, q2, q3, q4, g2, S9, q5, q6⟩
  cases one with
  | none =>
    cases other with
    | none =>
      obtain ⟨es, T, q1, q2, q3, q4, S9, q5, q6⟩ := pk [[], [.mark t3], [.mark t3, .mark t4], [.mark t3, .mark t3], [.opn t5, .shut]] S5 _ BB5 (by omega) (by simp) (by simp) (by
        intro es hes
        simp only [List.mem_cons, List.not_mem_nil, or_false] at hes
        rcases hes with rfl | rfl | rfl | rfl | rfl <;> simp [mb, mk3, mk4, op5, sh])
      refine ⟨es, S9, q1, q2, q3, ?_, q6⟩
      simp only [List.map_cons, List.map_nil, evsD, Evt.D] at q4
      unfold f__law_events b__law_events runF
      simp only [modeD]
      repeat first | simp only [e1, e2, e3', e4', e5', a1, a2] | walk_at "ev" | simp only [q4, q5]
      exact q5
    | some j =>
      have opj : evOk m (.opn j) := h2 j rfl
      obtain ⟨es, T, q1, q2, q3, q4, S9, q5, q6⟩ := pk [[.opn j], [.mark t3, .opn j], [.opn j, .say t1]] S4 _ BB4 (by omega) (by simp) (by simp) (by
        intro es hes
        simp only [List.mem_cons, List.not_mem_nil, or_false] at hes
        rcases hes with rfl | rfl | rfl <;> simp [mb, mk3, opj, say1])
      refine ⟨es, S9, q1, q2, q3, ?_, q6⟩
      simp only [List.map_cons, List.map_nil, evsD, Evt.D] at q4
      unfold f__law_events b__law_events runF
      simp only [modeD]
      repeat first | simp only [e1, e2, e3', e4', a1, a2] | walk_at "ev" | simp only [q4, q5]
      exact q5
  | some i =>
    cases other with
    | none =>
      obtain ⟨es, T, q1, q2, q3, q4, S9, q5, q6⟩ := pk [[.shut], [.say t1, .shut], [.shut, .mark t3]] S4 _ BB4 (by omega) (by simp) (by simp) (by
        intro es hes
        simp only [List.mem_cons, List.not_mem_nil, or_false] at hes
        rcases hes with rfl | rfl | rfl <;> simp [mb, mk3, sh, say1])
      refine ⟨es, S9, q1, q2, q3, ?_, q6⟩
      simp only [List.map_cons, List.map_nil, evsD, Evt.D] at q4
      unfold f__law_events b__law_events runF
      simp only [modeD]
      repeat first | simp only [e1, e2, e3', e4', a1, a2] | walk_at "ev" | simp only [q4, q5]
      exact q5
    | some j =>
      have opj : evOk m (.opn j) := h2 j rfl
      by_cases hij : i = j
      · subst hij
        have ne : ∀ S : Sto, neD (.int (i : Int)) (.int (i : Int)) S = .ok (.d (.bl false)) S := fun S => by
          show R.ok (XR.d (.bl (!((i : Int) == (i : Int))))) S = _
          simp
        obtain ⟨es, T, q1, q2, q3, q4, S9, q5, q6⟩ := pk [[], [.say t1], [.say t1, .say t2], [.say t1, .say t1], [.shut, .opn i]] S4 _ BB4 (by omega) (by simp) (by simp) (by
          intro es hes
          simp only [List.mem_cons, List.not_mem_nil, or_false] at hes
          rcases hes with rfl | rfl | rfl | rfl | rfl <;> simp [mb, say1, say2, sh, opj])
        refine ⟨es, S9, q1, q2, q3, ?_, q6⟩
        simp only [List.map_cons, List.map_nil, evsD, Evt.D] at q4
        unfold f__law_events b__law_events runF
        simp only [modeD]
        repeat first | simp only [e1, e2, e3', e4', a1, a2, ne] | walk_at "ev" | simp only [q4, q5]
        exact q5
      · have ne : ((i : Int) == (j : Int)) = false := by simp; omega
        refine ⟨[.shut, .opn j], S4, by simp, by simp [sh, opj], by simp [mb], ?_, BB4.mono (by omega)⟩
        have gc := BB4.gc (v := .d (.tup [.tup [.str "shut"], .tup [.str "open", .int (j : Int)]]))
        unfold f__law_events b__law_events runF
        simp only [modeD]
        repeat first | simp only [e1, e2, e3', e4', a1, a2, ne] | walk_at "ev" | simp only [gc]
        rfl

end K0
namespace K0
open PySem L2 PyProof.Rows Ev
local macro_rules | `(tactic| walk_at "ev") => `(tactic| simp only [sFor_eq, sSeq, sRet, sRetN, sIf, sAsg, sExpr, sNext, sPar, sPar3, sCont, sBreak, sNever, eAndM, eOrM, eNotM, eIf, eChain, eOp, eUn, eC, eV, eCall, eIsi, eIsiT, kitAnyB, eTup, eLst, eBi1, aNil, aCons, tVal, tTru, tNotM, tAndM, tOrM, asB, truB, blR, gNm, iAny, bind_ok, bind_no, force_d, force_tl, force_no, gcR_same, walk_tup, walk_tl, walk_str,
  kit_ii, kit_ib, kit_is, kit_it, kit_il, kit_ss, kit_si, kit_sb, kit_st, kit_sl, kit_tt, kit_ti, kit_tb, kit_ts, kit_tl, kit_ll, kit_li, kit_lb, kit_ls, kit_lt, kit_bb, kit_bi, kit_ni, kit_nb, kit_ns, kit_nt, kit_nl, ty_non, ty_bl, ty_int, ty_str, ty_tup,
  leD_int, geD_int, ltD_int, gtD_int, addD_int, subD_int, isD_non, isNotD_non, isD_bl, non_non, non_bl, non_int, non_str, non_tup, non_ref, eqD_int, neD_int, eqD_bl, ixd_tup, len_tup, len_tl, tuple_tl, bg0, bg1, bg2, bg3, bg4, bg5, at0, at1, at2, at3, optR_some,
  List.map_cons, List.map_nil, List.replicate, List.append_nil, List.nil_append, List.cons_append, List.length_cons, List.length_nil, Nat.reduceAdd, Nat.reduceSub, Nat.reduceEqDiff, Nat.reduceLeDiff, if_true, if_false, reduceIte, List.getElem?_cons_zero, List.getElem?_cons_succ, List.set_cons_zero, List.set_cons_succ, Option.bind, Bool.not_true, Bool.not_false, Bool.false_eq_true, beq_self_eq_true, Bool.and_true, Bool.and_false, Bool.true_and, Bool.false_and, Bool.or_true, Bool.or_false, Bool.true_or, Bool.false_or, cst0, cst1, cst2, cst3, cst4, cst5, cst6, Int.reduceLE, Int.reduceLT, Int.reduceBEq, decide_true, decide_false])
/-! plans -/
theorem lc_selM {α : Type} (g0 : α → D) {chk : Sto → Prop} {g : MG} {tt : MT} {te : M} {s0 : Ev.Env} {S : Sto} (hc : chk S) (p : α → Bool) (f : α → D) : ∀ (ds : List α) (acc : List D), acc.length + ds.length ≤ BIG → (∀ d ∈ ds, ∃ s1, g (g0 d) s0 S = .ok s1 S ∧ tt s1 S = .ok (p d) S ∧ (p d = true → force (te s1 S) = .ok (f d) S)) →
    loopC chk g tt te s0 (ds.map g0) acc S = .ok (acc ++ (ds.filter p).map f) S
  | [], acc, _, _ => by
    show guardS (chk S) (.ok acc S) = _
    rw [guardS_pos hc, List.filter_nil, List.map_nil, List.append_nil]
  | d :: ds, acc, hl, h => by
    obtain ⟨s1, e1, e2, e3⟩ := h d (List.mem_cons_self ..)
    rw [List.length_cons] at hl
    rw [List.map_cons]
    show guardS (chk S) ((g (g0 d) s0 S).bind fun s1 S1 => (tt s1 S1).bind fun b S2 => if b = true then (force (te s1 S2)).bind fun y S3 => if acc.length < BIG then loopC chk g tt te s0 (ds.map g0) (acc ++ [y]) S3 else .no else loopC chk g tt te s0 (ds.map g0) acc S2) = _
    rw [guardS_pos hc, e1, bind_ok, e2, bind_ok]
    cases hp : p d with
    | true =>
      rw [if_pos rfl, e3 hp, bind_ok]
      rw [if_pos (by omega), lc_selM g0 hc p f ds (acc ++ [f d]) (by rw [List.length_append, List.length_singleton]; omega) fun e he => h e (List.mem_cons_of_mem _ he), List.append_assoc, List.filter_cons_of_pos hp, List.map_cons]
      rfl
    | false =>
      rw [if_neg Bool.false_ne_true, lc_selM g0 hc p f ds acc (by omega) fun e he => h e (List.mem_cons_of_mem _ he), List.filter_cons_of_neg (by rw [hp]; decide)]
def freeL (E : List Edg) (m a : Nat) : List Nat := (List.range m).filter fun s => !hasE E a s && decide (((List.range m).filter (hasE E a)).length < m - 1)
def prD (a : Nat) (s : Nat) : D := .tup [iD a, iD s]
section
variable {y0 y1 y2 y3 y4 y5 y6 y7 y8 y9 y10 y11 y12 : Option D} {S : Sto} {m ed a : Nat} {E : List Edg}
theorem planned_c0 (hm : m ≤ 6) (h : S[ed]? = some (edO E)) : c__law_planned_0 [y0, some (.int m), y2, y3, some (.ref ed), y5, y6, y7, some (iD a), y9, y10, y11, y12] S = .ok (.tl (((List.range m).filter (hasE E a)).map iD)) S := by
  unfold c__law_planned_0
  rw [eComp_eq]
  have r := range1_nat (mm := eV 1) (s := [y0, some (.int m), y2, y3, some (.ref ed), y5, y6, y7, some (iD a), y9, y10, y11, y12]) (S := S) (S1 := S) (n := m) rfl (by omega)
  have lc := lc_selM (chk := fun _ => True) (g := gNm 12) (tt := tVal (eOp inD (eTup (aCons (eV 8) (aCons (eV 12) aNil))) (eV 4))) (te := eV 12) (s0 := wipeE [y0, some (.int m), y2, y3, some (.ref ed), y5, y6, y7, some (iD a), y9, y10, y11, y12] [12]) (S := S) iD True.intro (hasE E a) iD (List.range m) [] (by simp; exact Nat.le_trans hm (by decide)) (fun s _ => ⟨_, rfl, by
    have i := in_ed (a := a) (s := s) h
    simp only [wipeE]
    repeat first | walk_at "ev" | simp only [i], fun _ => by
    simp only [wipeE]
    repeat first | walk_at "ev"⟩)
  simp only [r, bind_ok, lc, List.nil_append]
theorem planned_c1 (hm : m ≤ 6) (h : S[ed]? = some (edO E)) : c__law_planned_1 [y0, some (.int m), y2, y3, some (.ref ed), y5, y6, y7, some (iD a), y9, y10, y11, y12] S = .ok (.tl ((freeL E m a).map (prD a))) S := by
  unfold c__law_planned_1
  rw [eComp_eq]
  have r := range1_nat (mm := eV 1) (s := [y0, some (.int m), y2, y3, some (.ref ed), y5, y6, y7, some (iD a), y9, y10, y11, y12]) (S := S) (S1 := S) (n := m) rfl (by omega)
  have c0 : ∀ s : Nat, c__law_planned_0 [y0, some (.int m), y2, y3, some (.ref ed), y5, y6, y7, some (iD a), some (iD s), y10, y11, y12] S = _ := fun s => planned_c0 (y0 := y0) (y2 := y2) (y3 := y3) (y5 := y5) (y6 := y6) (y7 := y7) (y9 := some (iD s)) (y10 := y10) (y11 := y11) (y12 := y12) hm h
  have lc := lc_selM (chk := fun _ => True) (g := gNm 9) (tt := tAndM (tVal (eOp notInD (eTup (aCons (eV 8) (aCons (eV 9) aNil))) (eV 4))) (tVal (eOp ltD (eBi1 bLen c__law_planned_0) (eOp subD (eV 1) (eC (.int 1)))))) (te := eTup (aCons (eV 8) (aCons (eV 9) aNil))) (s0 := wipeE [y0, some (.int m), y2, y3, some (.ref ed), y5, y6, y7, some (iD a), y9, y10, y11, y12] [9]) (S := S) iD True.intro (fun s => !hasE E a s && decide (((List.range m).filter (hasE E a)).length < m - 1)) (prD a) (List.range m) [] (by simp; exact Nat.le_trans hm (by decide)) (fun s _ => ⟨_, rfl, by
    have i := notIn_ed (a := a) (s := s) h
    have c := c0 s
    simp only [wipeE]
    repeat first | simp only [i, c] | walk_at "ev"
    cases hasE E a s with
    | true => rfl
    | false =>
      repeat first | simp only [i, c] | walk_at "ev"
      rw [List.length_map]
      rw [show decide (((((List.range m).filter (hasE E a)).length : Nat) : Int) < (m : Int) - 1) = decide (((List.range m).filter (hasE E a)).length < m - 1) from by
        rw [decide_eq_decide]; omega], fun _ => by
    simp only [wipeE]
    repeat first | walk_at "ev"
    rfl⟩)
  simp only [r, bind_ok, lc, List.nil_append]
  rfl
theorem planned_c2 (hm : m ≤ 6) (h : S[ed]? = some (edO E)) : c__law_planned_2 [y0, some (.int m), y2, y3, some (.ref ed), y5, y6, y7, some (iD a), y9, y10, y11, y12] S = .ok (.tl (((List.range m).filter fun s => !hasE E a s).map iD)) S := by
  unfold c__law_planned_2
  rw [eComp_eq]
  have r := range1_nat (mm := eV 1) (s := [y0, some (.int m), y2, y3, some (.ref ed), y5, y6, y7, some (iD a), y9, y10, y11, y12]) (S := S) (S1 := S) (n := m) rfl (by omega)
  have lc := lc_selM (chk := fun _ => True) (g := gNm 9) (tt := tVal (eOp notInD (eTup (aCons (eV 8) (aCons (eV 9) aNil))) (eV 4))) (te := eV 9) (s0 := wipeE [y0, some (.int m), y2, y3, some (.ref ed), y5, y6, y7, some (iD a), y9, y10, y11, y12] [9]) (S := S) iD True.intro (fun s => !hasE E a s) iD (List.range m) [] (by simp; exact Nat.le_trans hm (by decide)) (fun s _ => ⟨_, rfl, by
    have i := notIn_ed (a := a) (s := s) h
    simp only [wipeE]
    repeat first | walk_at "ev" | simp only [i], fun _ => by
    simp only [wipeE]
    repeat first | walk_at "ev"⟩)
  simp only [r, bind_ok, lc, List.nil_append]
end
/-- the store while a plan is made -/
structure Pl (b : Nat) (S0 S1 : Sto) (n : Nat) (E : List Edg) (kn : List (Option Nat)) (hm : List (List Nat)) : Prop where
  fr : Fr b S0 S1 n
  bl : b < S0.length
  kn : S1[S0.length]? = some (.lst (kn.map modeD))
  ed : S1[S0.length + 1]? = some (edO E)
  hm : S1[S0.length + 2]? = some (.lst (hm.map fun h => .str (tx h)))
section
variable {b n n' : Nat} {S0 S1 S2 : Sto} {E : List Edg} {kn : List (Option Nat)} {hm : List (List Nat)}
theorem Pl.mono (p : Pl b S0 S1 n E kn hm) (h : n ≤ n') : Pl b S0 S1 n' E kn hm := ⟨p.fr.mono h, p.bl, p.kn, p.ed, p.hm⟩
theorem Pl.step (p : Pl b S0 S1 n E kn hm) (f : Fr b S1 S2 n') : Pl b S0 S2 n' E kn hm := by
  have bl := p.bl
  exact ⟨p.fr.trans f, bl, f.at_ p.kn (by omega), f.at_ p.ed (by omega), f.at_ p.hm (by omega)⟩
theorem Pl.app (p : Pl b S0 S1 n E kn hm) (T : Sto) : Pl b S0 (S1 ++ T) n E kn hm := p.step ((Fr.refl p.fr.box).app T)
theorem Pl.long (p : Pl b S0 S1 n E kn hm) : S0.length + 3 ≤ S1.length := by
  have := (List.getElem?_eq_some_iff.mp p.hm).1
  omega
theorem Pl.put (p : Pl b S0 S1 n E kn hm) {q : Nat} (o : O) (hq : S0.length + 3 ≤ q) : Pl b S0 (S1.set q o) n E kn hm := by
  have bl := p.bl
  refine ⟨p.fr.put o (by omega) bl, bl, ?_, ?_, ?_⟩
  · rw [List.getElem?_set_ne (by omega)]; exact p.kn
  · rw [List.getElem?_set_ne (by omega)]; exact p.ed
  · rw [List.getElem?_set_ne (by omega)]; exact p.hm
theorem Pl.putK (p : Pl b S0 S1 n E kn hm) (kn' : List (Option Nat)) : Pl b S0 (S1.set S0.length (.lst (kn'.map modeD))) n E kn' hm := by
  have bl := p.bl
  have lg := p.long
  refine ⟨p.fr.put _ (by omega) bl, bl, List.getElem?_set_self (by omega), ?_, ?_⟩
  · rw [List.getElem?_set_ne (by omega)]; exact p.ed
  · rw [List.getElem?_set_ne (by omega)]; exact p.hm
theorem Pl.putE (p : Pl b S0 S1 n E kn hm) (E' : List Edg) : Pl b S0 (S1.set (S0.length + 1) (edO E')) n E' kn hm := by
  have bl := p.bl
  have lg := p.long
  refine ⟨p.fr.put _ (by omega) bl, bl, ?_, List.getElem?_set_self (by omega), ?_⟩
  · rw [List.getElem?_set_ne (by omega)]; exact p.kn
  · rw [List.getElem?_set_ne (by omega)]; exact p.hm
theorem Pl.putH (p : Pl b S0 S1 n E kn hm) (hm' : List (List Nat)) : Pl b S0 (S1.set (S0.length + 2) (.lst (hm'.map fun h => .str (tx h)))) n E kn hm' := by
  have bl := p.bl
  have lg := p.long
  refine ⟨p.fr.put _ (by omega) bl, bl, ?_, ?_, List.getElem?_set_self (by omega)⟩
  · rw [List.getElem?_set_ne (by omega)]; exact p.kn
  · rw [List.getElem?_set_ne (by omega)]; exact p.ed
/-- all free places -/
def freeA (E : List Edg) (m : Nat) (l : List Nat) : List (Nat × Nat) := l.flatMap fun a => (freeL E m a).map fun s => (a, s)
def prP (p : Nat × Nat) : D := .tup [iD p.1, iD p.2]
theorem freeA_cons (E : List Edg) (m a : Nat) (l : List Nat) : freeA E m (a :: l) = (freeL E m a).map (fun s => (a, s)) ++ freeA E m l := rfl
theorem extend_L {p q : Nat} {xs ys : List D} {S : Sto} (h : S[p]? = some (.lst xs)) (h2 : S[q]? = some (.lst ys)) (hl : xs.length + ys.length ≤ BIG) : mExtend "list" (.ref p) [.ref q] S = .ok (.d .non) (S.set p (.lst (xs ++ ys))) := by
  unfold mExtend
  rw [if_pos rfl]
  simp only [withL, h, h2]
  rw [if_pos hl]
theorem freeL_len (E : List Edg) (m a : Nat) : (freeL E m a).length ≤ m := by
  unfold freeL
  exact Nat.le_trans (List.length_filter_le _ _) (by simp)
variable {y0 y1 y2 y3 y4 y5 y6 y7 y8 y9 y10 y11 y12 : Option D} {m : Nat}
theorem planned_l0 (hm6 : m ≤ 6) {q : Nat} (hq : S0.length + 3 ≤ q) : ∀ (l : List Nat) (S1 : Sto) (acc : List (Nat × Nat)) (y8 : Option D), Pl b S0 S1 n E kn hm → S1[q]? = some (.lst (acc.map prP)) → acc.length + 6 * l.length ≤ 1000 →
    ∃ S2 z8, loopF (fun _ => True) (forB (gNm 8) b__law_planned_l0) (l.map iD) [y0, some (.int m), y2, y3, some (.ref (S0.length + 1)), y5, y6, some (.ref q), y8, y9, y10, y11, y12] S1 =
      .ok (.nx [y0, some (.int m), y2, y3, some (.ref (S0.length + 1)), y5, y6, some (.ref q), z8, y9, y10, y11, y12]) S2 ∧ Pl b S0 S2 n E kn hm ∧ S2[q]? = some (.lst ((acc ++ freeA E m l).map prP))
  | [], S1, acc, y8, hP, hA, hl => ⟨S1, y8, lp_nil, hP, by rw [show freeA E m [] = [] from rfl, List.append_nil]; exact hA⟩
  | a :: l, S1, acc, y8, hP, hA, hl => by
    have fl := freeL_len E m a
    rw [List.length_cons] at hl
    have c1 := planned_c1 (y0 := y0) (y2 := y2) (y3 := y3) (y5 := y5) (y6 := y6) (y7 := some (.ref q)) (y9 := y9) (y10 := y10) (y11 := y11) (y12 := y12) (a := a) hm6 hP.ed
    have ql := (List.getElem?_eq_some_iff.mp hA).1
    have hA1 : (S1 ++ [O.lst ((freeL E m a).map (prD a))])[q]? = some (.lst (acc.map prP)) := by rw [List.getElem?_append_left ql]; exact hA
    have ex := extend_L hA1 (getElem?_snoc S1 (O.lst ((freeL E m a).map (prD a)))) (by rw [List.length_map, List.length_map]; exact Nat.le_trans (show acc.length + (freeL E m a).length ≤ 1000 by omega) (by decide))
    have ty := tyD_lst hA
    have e1 : acc.map prP ++ (freeL E m a).map (prD a) = (acc ++ (freeL E m a).map fun s => (a, s)).map prP := by
      rw [List.map_append, List.map_map]
      rfl
    rw [e1] at ex
    have P2 := (hP.app [O.lst ((freeL E m a).map (prD a))]).put (O.lst ((acc ++ (freeL E m a).map fun s => (a, s)).map prP)) hq
    obtain ⟨S2, z8, g1, g2, g3⟩ := planned_l0 hm6 hq l _ (acc ++ (freeL E m a).map fun s => (a, s)) (some (iD a)) P2 (List.getElem?_set_self (by rw [List.length_append]; omega)) (by rw [List.length_append, List.length_map]; omega)
    refine ⟨S2, z8, ?_, g2, by rw [g3, freeA_cons, List.append_assoc]⟩
    rw [List.map_cons, lp_cons]
    have step : forB (gNm 8) b__law_planned_l0 (iD a) [y0, some (.int m), y2, y3, some (.ref (S0.length + 1)), y5, y6, some (.ref q), y8, y9, y10, y11, y12] S1 = .ok (.nx [y0, some (.int m), y2, y3, some (.ref (S0.length + 1)), y5, y6, some (.ref q), some (iD a), y9, y10, y11, y12]) ((S1 ++ [O.lst ((freeL E m a).map (prD a))]).set q (O.lst ((acc ++ (freeL E m a).map fun s => (a, s)).map prP))) := by
      unfold forB b__law_planned_l0
      repeat first | simp only [c1, eMeth, ty, ex] | walk_at "ev"
    rw [step, bind_ok]
    exact g1
end

end K0
namespace K0
open PySem L2 PyProof.Rows Ev
local macro_rules | `(tactic| walk_at "ev") => `(tactic| simp only [sFor_eq, sSeq, sRet, sRetN, sIf, sAsg, sExpr, sNext, sPar, sPar3, sCont, sBreak, sNever, eAndM, eOrM, eNotM, eIf, eChain, eOp, eUn, eC, eV, eCall, eIsi, eIsiT, kitAnyB, eTup, eLst, eBi1, aNil, aCons, tVal, tTru, tNotM, tAndM, tOrM, asB, truB, blR, gNm, iAny, bind_ok, bind_no, force_d, force_tl, force_no, gcR_same, walk_tup, walk_tl, walk_str,
  kit_ii, kit_ib, kit_is, kit_it, kit_il, kit_ss, kit_si, kit_sb, kit_st, kit_sl, kit_tt, kit_ti, kit_tb, kit_ts, kit_tl, kit_ll, kit_li, kit_lb, kit_ls, kit_lt, kit_bb, kit_bi, kit_ni, kit_nb, kit_ns, kit_nt, kit_nl, ty_non, ty_bl, ty_int, ty_str, ty_tup,
  leD_int, geD_int, ltD_int, gtD_int, addD_int, subD_int, isD_non, isNotD_non, isD_bl, non_non, non_bl, non_int, non_str, non_tup, non_ref, eqD_int, neD_int, eqD_bl, ixd_tup, len_tup, len_tl, tuple_tl, bg0, bg1, bg2, bg3, bg4, bg5, at0, at1, at2, at3, optR_some,
  List.map_cons, List.map_nil, List.replicate, List.append_nil, List.nil_append, List.cons_append, List.length_cons, List.length_nil, Nat.reduceAdd, Nat.reduceSub, Nat.reduceEqDiff, Nat.reduceLeDiff, if_true, if_false, reduceIte, List.getElem?_cons_zero, List.getElem?_cons_succ, List.set_cons_zero, List.set_cons_succ, Option.bind, Bool.not_true, Bool.not_false, Bool.false_eq_true, beq_self_eq_true, Bool.and_true, Bool.and_false, Bool.true_and, Bool.false_and, Bool.or_true, Bool.or_false, Bool.true_or, Bool.false_or, cst0, cst1, cst2, cst3, cst4, cst5, cst6, Int.reduceLE, Int.reduceLT, Int.reduceBEq, decide_true, decide_false])
/-! a turn of a plan: a new node -/
section
variable {b n n' : Nat} {S0 S1 S2 : Sto} {E : List Edg} {kn : List (Option Nat)} {hm : List (List Nat)} {m : Nat}
theorem freeA_mem {E : List Edg} {m : Nat} {l : List Nat} {p : Nat × Nat} (h : p ∈ freeA E m l) : p.1 ∈ l ∧ p.2 < m ∧ p ∉ E.map (·.1) ∧ ∃ s', s' < m ∧ s' ≠ p.2 ∧ (p.1, s') ∉ E.map (·.1) := by
  unfold freeA at h
  obtain ⟨a, h1, h2⟩ := List.mem_flatMap.mp h
  obtain ⟨s, h3, rfl⟩ := List.mem_map.mp h2
  unfold freeL at h3
  obtain ⟨h4, h5⟩ := List.mem_filter.mp h3
  rw [Bool.and_eq_true] at h5
  obtain ⟨h6, h7⟩ := h5
  have hs := List.mem_range.mp h4
  have h6' : (a, s) ∉ E.map (·.1) := by
    unfold hasE at h6
    simpa using h6
  obtain ⟨s', g1, g2, g3⟩ := free_two (hasE E a) hs (of_decide_eq_true h7)
  refine ⟨h1, hs, h6', s', g1, g2, ?_⟩
  unfold hasE at g3
  simpa using g3
theorem freeA_ne {k : Nat} (t : TreeOk m k E kn hm) (h2 : 2 ≤ m) : freeA E m (List.range k) ≠ [] := by
  have k1 := t.k1
  have no : ∀ s, hasE E (k - 1) s = false := fun s => by
    unfold hasE
    apply decide_eq_false
    intro h
    obtain ⟨e, h1, h2⟩ := List.mem_map.mp h
    obtain ⟨⟨a', s'⟩, b, es'⟩ := e
    have := t.ed a' s' b es' h1
    cases h2
    omega
  have : (k - 1, 0) ∈ freeA E m (List.range k) := by
    unfold freeA
    refine List.mem_flatMap.mpr ⟨k - 1, List.mem_range.mpr (by omega), List.mem_map.mpr ⟨0, ?_, rfl⟩⟩
    unfold freeL
    refine List.mem_filter.mpr ⟨List.mem_range.mpr (by omega), ?_⟩
    rw [no 0]
    have : (List.range m).filter (hasE E (k - 1)) = [] := by
      apply List.filter_eq_nil_iff.mpr
      intro s _
      rw [no s]
      decide
    rw [this]
    simp
    omega
  intro h
  rw [h] at this
  cases this
theorem freeA_len (E : List Edg) (m : Nat) : ∀ l : List Nat, (freeA E m l).length ≤ m * l.length
  | [] => Nat.zero_le _
  | a :: l => by
    have h1 := freeL_len E m a
    have h2 := freeA_len E m l
    rw [freeA_cons, List.length_append, List.length_map, List.length_cons, Nat.mul_add]
    omega
noncomputable def kindE : M := eIf (tAndM (tVal (eOp ltD (eV 6) (eC (.int 4)))) (tVal (eOp gtD (eCall f__law_take (aCons (eV 0) (aCons (eC (.int 4)) aNil))) (eC (.int 0))))) (eOp ixD (eLst (aCons (eC (.int 0)) (aCons (eC (.int 1)) (aCons (eC (.int 2)) aNil)))) (eOp modD (eBi1 bInt (eOp subD (eV 6) (eC (.int 1)))) (eC (.int 3)))) (eCall f__law_pick (aCons (eV 0) (aCons (eLst (aCons (eC .non) (aCons (eC (.int 0)) (aCons (eC (.int 1)) (aCons (eC (.int 2)) aNil))))) aNil)))
theorem kind_pick (hB : Bs b S1 n) (hn : n < LIM) : ∃ (c : Option Nat) (S2 : Sto), f__law_pick [.ref b, .ref S1.length] (S1 ++ [.lst [.non, .int 0, .int 1, .int 2]]) = .ok (.d (modeD c)) S2 ∧ Fr b S1 S2 (n + 1) ∧ ∀ j, c = some j → j ≤ 2 := by
  obtain ⟨t, d, S2, h1, h2, h3⟩ := pick_new (ds := [.non, .int 0, .int 1, .int 2]) hB hn (by simp) (by simp) rfl
  match t, h1 with
  | 0, h1 => cases h1; exact ⟨none, S2, h2, h3, fun j q => by cases q⟩
  | 1, h1 => cases h1; exact ⟨some 0, S2, h2, h3, fun j q => by cases q; omega⟩
  | 2, h1 => cases h1; exact ⟨some 1, S2, h2, h3, fun j q => by cases q; omega⟩
  | 3, h1 => cases h1; exact ⟨some 2, S2, h2, h3, fun j q => by cases q; omega⟩
  | t + 4, h1 => cases h1
variable {y0 y1 y2 y3 y4 y5 y6 y7 y8 y9 y10 y11 y12 : Option D}
theorem kind_ok (hB : Bs b S1 n) (hn : n + 2 < LIM) {k : Nat} (hk : 1 ≤ k) : ∃ (c : Option Nat) (S2 : Sto), force (kindE [some (.ref b), y1, y2, y3, y4, y5, some (iD k), y7, y8, y9, y10, y11, y12] S1) = .ok (modeD c) S2 ∧ Fr b S1 S2 (n + 2) ∧ ∀ j, c = some j → j ≤ 2 := by
  by_cases h4 : k < 4
  · obtain ⟨t, S2, ht, e, B⟩ := take_B hB (by omega) (show 0 < 4 by decide) (by omega)
    have e' : f__law_take [.ref b, .int 4] S1 = .ok (.d (.int (t : Int))) S2 := e
    have d1 : decide ((k : Int) < 4) = true := decide_eq_true (by omega)
    by_cases h0 : t = 0
    · subst h0
      obtain ⟨c, S3, g1, g2, g3⟩ := kind_pick B.box (by omega)
      refine ⟨c, S3, ?_, B.fr.trans g2, g3⟩
      have d2 : decide ((0 : Int) < ((0 : Nat) : Int)) = false := by decide
      unfold kindE
      repeat first | simp only [e', d1, d2, g1] | walk_at "ev"
    · have d2 : decide ((0 : Int) < (t : Int)) = true := decide_eq_true (by omega)
      refine ⟨some (k - 1), S2 ++ [.lst [.int 0, .int 1, .int 2]], ?_, (B.fr.app _).mono (by omega), fun j q => by cases q; omega⟩
      have m1 : ∀ S : Sto, modD (.int ((k : Int) - 1)) (.int 3) S = .ok (.d (.int ((k - 1 : Nat) : Int))) S := fun S => by
        rw [modI (by decide), show ((k : Int) - 1) % 3 = ((k - 1 : Nat) : Int) by omega]
      have b1 : ∀ (i : Int) (S : Sto), bInt (.d (.int i)) S = .ok (.d (.int i)) S := fun _ _ => rfl
      have ix : ixD (.ref S2.length) (.int ((k - 1 : Nat) : Int)) (S2 ++ [.lst [.int 0, .int 1, .int 2]]) = .ok (.d (.int ((k - 1 : Nat) : Int))) (S2 ++ [.lst [.int 0, .int 1, .int 2]]) := by
        refine ixB (getElem?_snoc _ _) (k - 1) ?_
        match k, hk, h4 with
        | 1, _, _ => rfl
        | 2, _, _ => rfl
        | 3, _, _ => rfl
      unfold kindE
      repeat first | simp only [e', d1, d2, b1, m1, ix] | walk_at "ev"
      rfl
  · have d1 : decide ((k : Int) < 4) = false := decide_eq_false (by omega)
    obtain ⟨c, S3, g1, g2, g3⟩ := kind_pick hB (by omega)
    refine ⟨c, S3, ?_, g2.mono (by omega), g3⟩
    unfold kindE
    repeat first | simp only [d1, g1] | walk_at "ev"
end

end K0
namespace K0
open PySem L2 PyProof.Rows Ev
local macro_rules | `(tactic| walk_at "ev") => `(tactic| simp only [sFor_eq, sSeq, sRet, sRetN, sIf, sAsg, sExpr, sNext, sPar, sPar3, sCont, sBreak, sNever, eAndM, eOrM, eNotM, eIf, eChain, eOp, eUn, eC, eV, eCall, eIsi, eIsiT, kitAnyB, eTup, eLst, eBi1, aNil, aCons, tVal, tTru, tNotM, tAndM, tOrM, asB, truB, blR, gNm, iAny, bind_ok, bind_no, force_d, force_tl, force_no, gcR_same, walk_tup, walk_tl, walk_str,
  kit_ii, kit_ib, kit_is, kit_it, kit_il, kit_ss, kit_si, kit_sb, kit_st, kit_sl, kit_tt, kit_ti, kit_tb, kit_ts, kit_tl, kit_ll, kit_li, kit_lb, kit_ls, kit_lt, kit_bb, kit_bi, kit_ni, kit_nb, kit_ns, kit_nt, kit_nl, ty_non, ty_bl, ty_int, ty_str, ty_tup,
  leD_int, geD_int, ltD_int, gtD_int, addD_int, subD_int, isD_non, isNotD_non, isD_bl, non_non, non_bl, non_int, non_str, non_tup, non_ref, eqD_int, neD_int, eqD_bl, ixd_tup, len_tup, len_tl, tuple_tl, bg0, bg1, bg2, bg3, bg4, bg5, at0, at1, at2, at3, optR_some,
  List.map_cons, List.map_nil, List.replicate, List.append_nil, List.nil_append, List.cons_append, List.length_cons, List.length_nil, Nat.reduceAdd, Nat.reduceSub, Nat.reduceEqDiff, Nat.reduceLeDiff, if_true, if_false, reduceIte, List.getElem?_cons_zero, List.getElem?_cons_succ, List.set_cons_zero, List.set_cons_succ, Option.bind, Bool.not_true, Bool.not_false, Bool.false_eq_true, beq_self_eq_true, Bool.and_true, Bool.and_false, Bool.true_and, Bool.false_and, Bool.or_true, Bool.or_false, Bool.true_or, Bool.false_or, cst0, cst1, cst2, cst3, cst4, cst5, cst6, Int.reduceLE, Int.reduceLT, Int.reduceBEq, decide_true, decide_false])
section
variable {b n n' : Nat} {S0 S1 S2 : Sto} {E : List Edg} {kn : List (Option Nat)} {hm : List (List Nat)} {m : Nat}
variable {y0 y1 y2 y3 y4 y5 y6 y7 y8 y9 y10 y11 y12 : Option D}
theorem l1_eq : b__law_planned_l1 = (sSeq (sAsg (eLst aNil) (gNm 7))
    (sSeq (sFor (iRange1 (eV 6)) (gNm 8) b__law_planned_l0)
    (sSeq (sAsg (eOp ixD (eV 7) (eOp subD (eUn negD (eC (.int 1))) (eCall f__law_take (aCons (eV 0) (aCons (eOp bMin2 (eBi1 bLen (eV 7)) (eOp mulD (eC (.int 2)) (eV 1))) aNil))))) (gTp 2 (gsCons (gNm 8) (gsCons (gNm 9) gsNil))))
    (sSeq (sExpr (eMeth mAppend (eV 3) (aCons kindE aNil)))
    (sSeq (sAsg (eTup (aCons (eV 6) (aCons (eCall f__law_events (aCons (eV 0) (aCons (eV 1) (aCons (eOp ixD (eV 3) (eV 8)) (aCons (eOp ixD (eV 3) (eV 6)) aNil))))) aNil))) (gSb (eV 4) (eTup (aCons (eV 8) (aCons (eV 9) aNil)))))
    (sSeq (sExpr (eMeth mAppend (eV 5) (aCons (eOp addD (eOp ixD (eV 5) (eV 8)) (eOp ixD (eC (.str "abcdef")) (eV 9))) aNil)))
    sNext)))))) := rfl
theorem at_neg {α : Type} {ds : List α} {t : Nat} (h : t < ds.length) : atI ds (-1 - (t : Int)) = ds[ds.length - 1 - t]? := by
  unfold atI ixN
  rw [if_neg (by omega), if_pos (by omega)]
  show ds[(_ : Nat)]? = _
  congr 1
  omega
theorem negI {i : Int} {S : Sto} : negD (.int i) S = .ok (.d (.int (-i))) S := rfl
theorem min_int {i j : Int} {S : Sto} : bMin2 (.int i) (.int j) S = .ok (.d (.int (if j < i then j else i))) S := rfl
theorem ix_kn {S : Sto} {p a : Nat} {kn : List (Option Nat)} (h : S[p]? = some (.lst (kn.map modeD))) (ha : a < kn.length) : ixD (.ref p) (.int (a : Int)) S = .ok (.d (modeD (kn.getD a none))) S := by
  refine ixB h a ?_
  rw [List.getElem?_map, List.getElem?_eq_getElem ha, List.getD_eq_getElem?_getD, List.getElem?_eq_getElem ha]
  rfl
theorem ix_hm {S : Sto} {p a : Nat} {hm : List (List Nat)} (h : S[p]? = some (.lst (hm.map fun h => D.str (tx h)))) (ha : a < hm.length) : ixD (.ref p) (.int (a : Int)) S = .ok (.d (.str (tx (hm.getD a [])))) S := by
  refine ixB h a ?_
  rw [List.getElem?_map, List.getElem?_eq_getElem ha, List.getD_eq_getElem?_getD, List.getElem?_eq_getElem ha]
  rfl
theorem seqD_tup {ds : List D} {S : Sto} : seqD (.tup ds) S = some ds := rfl
theorem planned_turn {k : Nat} (h2 : 2 ≤ m) (hm6 : m ≤ 6) (hn : n + 20 < LIM) (hk : k < 8) (hP : Pl b S0 S1 n E kn hm) (t : TreeOk m k E kn hm) (hE : E.length < k) :
    ∃ S2 E' kn' hm' z7 z8 z9, forB (gNm 6) b__law_planned_l1 (iD k) [some (.ref b), some (.int m), y2, some (.ref S0.length), some (.ref (S0.length + 1)), some (.ref (S0.length + 2)), y6, y7, y8, y9, y10, y11, y12] S1 =
      .ok (.nx [some (.ref b), some (.int m), y2, some (.ref S0.length), some (.ref (S0.length + 1)), some (.ref (S0.length + 2)), some (iD k), z7, z8, z9, y10, y11, y12]) S2 ∧ Pl b S0 S2 (n + 20) E' kn' hm' ∧ TreeOk m (k + 1) E' kn' hm' ∧ E'.length < k + 1 := by
  have lg := hP.long
  have kl := t.kl
  have hl := t.hl
  have k1 := t.k1
  obtain ⟨S2, z8, e2, P2, g2⟩ := planned_l0 (y0 := some (.ref b)) (y2 := y2) (y3 := some (.ref S0.length)) (y5 := some (.ref (S0.length + 2))) (y6 := some (iD k)) (y9 := y9) (y10 := y10) (y11 := y11) (y12 := y12) hm6 (show S0.length + 3 ≤ S1.length by omega) (List.range k) (S1 ++ [.lst []]) [] y8 (hP.app _) (getElem?_snoc _ _) (by simp; omega)
  rw [List.nil_append] at g2
  obtain ⟨F, hF⟩ : ∃ F, F = freeA E m (List.range k) := ⟨_, rfl⟩
  have F0 : F ≠ [] := by rw [hF]; exact freeA_ne t h2
  have Fl : F.length ≤ 64 := by
    rw [hF]
    refine Nat.le_trans (freeA_len E m _) ?_
    rw [List.length_range]
    exact Nat.le_trans (Nat.mul_le_mul hm6 (show k ≤ 8 by omega)) (by decide)
  have Fp : 0 < F.length := List.length_pos_iff.mpr F0
  rw [← hF] at g2
  have r1 := range1_nat (mm := eV 6) (s := [some (.ref b), some (.int m), y2, some (.ref S0.length), some (.ref (S0.length + 1)), some (.ref (S0.length + 2)), some (iD k), some (.ref S1.length), y8, y9, y10, y11, y12]) (S := S1 ++ [.lst []]) (S1 := S1 ++ [.lst []]) (n := k) rfl (by omega)
  have ln := len_lst g2
  rw [List.length_map] at ln
  have mu : mulD (.int 2) (.int (m : Int)) S2 = .ok (.d (.int (2 * (m : Int)))) S2 := mulI (by decide)
  obtain ⟨w, hw⟩ : ∃ w : Nat, w = if 2 * m < F.length then 2 * m else F.length := ⟨_, rfl⟩
  have hw' : (if 2 * (m : Int) < ((F.length : Nat) : Int) then 2 * (m : Int) else ((F.length : Nat) : Int)) = (w : Int) := by
    rw [hw]
    by_cases q : 2 * m < F.length
    · rw [if_pos q, if_pos (by omega)]; omega
    · rw [if_neg q, if_neg (by omega)]
  have hw0 : 0 < w := by rw [hw]; split <;> omega
  have hwF : w ≤ F.length := by rw [hw]; split <;> omega
  obtain ⟨t3, S3, ht3, e3, B3⟩ := take_B P2.fr.box (by omega) hw0 (by omega)
  have P3 := P2.step B3.fr
  have g3 := B3.at_ g2 (by have := P2.bl; omega)
  obtain ⟨p, hp⟩ : ∃ p, F[F.length - 1 - t3]? = some p := ⟨_, List.getElem?_eq_getElem (by omega)⟩
  have ix : ixD (.ref S1.length) (.int (-1 - (t3 : Int))) S3 = .ok (.d (prP p)) S3 := by
    rw [ixd_lst g3, at_neg (by rw [List.length_map]; omega), List.length_map, List.getElem?_map, hp]
    rfl
  obtain ⟨a, s⟩ := p
  obtain ⟨f1, f2, f3, f4⟩ := freeA_mem (hF ▸ List.mem_of_getElem? hp)
  have ha : a < k := List.mem_range.mp f1
  simp only at f2 f3 f4
  simp only [prP] at ix
  obtain ⟨c, S4, e4, F4, hc⟩ := kind_ok (y1 := some (.int m)) (y2 := y2) (y3 := some (.ref S0.length)) (y4 := some (.ref (S0.length + 1))) (y5 := some (.ref (S0.length + 2))) (y7 := some (.ref S1.length)) (y8 := some (iD a)) (y9 := some (iD s)) (y10 := y10) (y11 := y11) (y12 := y12) P3.fr.box (by omega) k1
  have P4 := P3.step F4
  have ty3 := tyD_lst P3.kn
  have ap4 : mAppend "list" (.ref S0.length) [modeD c] S4 = .ok (.d .non) (S4.set S0.length (.lst ((kn ++ [c]).map modeD))) := by
    have := append_D (d := modeD c) P4.kn (by rw [List.length_map, kl]; exact Nat.lt_trans (show k < 8 from hk) (by decide))
    rw [List.map_append]
    exact this
  have P5 := P4.putK (kn ++ [c])
  obtain ⟨S5, hS5⟩ : ∃ S5, S5 = S4.set S0.length (.lst ((kn ++ [c]).map modeD)) := ⟨_, rfl⟩
  rw [← hS5] at P5 ap4
  have ka : (kn ++ [c]).getD a none = kn.getD a none := getD_snoc_lt (by omega)
  have kk : (kn ++ [c]).getD k none = c := by rw [← kl]; exact getD_snoc_eq
  have i5 := ix_kn (a := a) P5.kn (by simp; omega)
  have i6 := ix_kn (a := k) P5.kn (by simp; omega)
  rw [ka] at i5
  rw [kk] at i6
  obtain ⟨es, S6, q1, q2, q3, e6, B6⟩ := law_events_ok (one := kn.getD a none) (other := c) P5.fr.box (by omega) (by omega) hm6 (fun j q => t.kk a j q) hc
  have P6 := P5.step B6.fr
  have st := set_ed (a := a) (s := s) (b := k) (es := es) P6.ed f3 (by omega)
  have P7 := P6.putE (E ++ [((a, s), (k, es))])
  obtain ⟨S7, hS7⟩ : ∃ S7, S7 = S6.set (S0.length + 1) (edO (E ++ [((a, s), (k, es))])) := ⟨_, rfl⟩
  rw [← hS7] at P7 st
  have ty7 := tyD_lst P7.hm
  have i7 := ix_hm (a := a) P7.hm (by omega)
  have i8 := ix_alpha (s := s) (by omega) (S := S7)
  have had := (t.hb a ha).1
  have ad : addD (.str (tx (hm.getD a []))) (.str (tx [s])) S7 = .ok (.d (.str (tx (hm.getD a [] ++ [s])))) S7 := by
    rw [addD_str (by rw [tx_len, tx_len]; exact Nat.le_trans (show (hm.getD a []).length + 1 ≤ 9 by omega) (by decide)), tx_app]
  have ap7 : mAppend "list" (.ref (S0.length + 2)) [.str (tx (hm.getD a [] ++ [s]))] S7 = .ok (.d .non) (S7.set (S0.length + 2) (.lst ((hm ++ [hm.getD a [] ++ [s]]).map fun h => .str (tx h)))) := by
    have := append_D (d := .str (tx (hm.getD a [] ++ [s]))) P7.hm (by rw [List.length_map, hl]; exact Nat.lt_trans (show k < 8 from hk) (by decide))
    rw [List.map_append]
    exact this
  have P8 := P7.putH (hm ++ [hm.getD a [] ++ [s]])
  refine ⟨_, _, _, _, some (.ref S1.length), some (iD a), some (iD s), ?_, P8.mono (by omega), t.step ha f2 f3 f4 hc q1 q2 q3, by rw [List.length_append, List.length_singleton]; omega⟩
  rw [l1_eq]
  unfold forB
  repeat first | simp only [r1, e2, ln, mu, min_int, hw', e3, negI, ix, gTp, gsCons, gsNil, seqD_tup, eMeth, ty3, e4, ap4, i5, i6, e6, gSb, st, ty7, i7, i8, ad, ap7] | walk_at "ev"
end

end K0
namespace K0
open PySem L2 PyProof.Rows Ev
local macro_rules | `(tactic| walk_at "ev") => `(tactic| simp only [sFor_eq, sSeq, sRet, sRetN, sIf, sAsg, sExpr, sNext, sPar, sPar3, sCont, sBreak, sNever, eAndM, eOrM, eNotM, eIf, eChain, eOp, eUn, eC, eV, eCall, eIsi, eIsiT, kitAnyB, eTup, eLst, eBi1, aNil, aCons, tVal, tTru, tNotM, tAndM, tOrM, asB, truB, blR, gNm, iAny, bind_ok, bind_no, force_d, force_tl, force_no, gcR_same, walk_tup, walk_tl, walk_str,
  kit_ii, kit_ib, kit_is, kit_it, kit_il, kit_ss, kit_si, kit_sb, kit_st, kit_sl, kit_tt, kit_ti, kit_tb, kit_ts, kit_tl, kit_ll, kit_li, kit_lb, kit_ls, kit_lt, kit_bb, kit_bi, kit_ni, kit_nb, kit_ns, kit_nt, kit_nl, ty_non, ty_bl, ty_int, ty_str, ty_tup,
  leD_int, geD_int, ltD_int, gtD_int, addD_int, subD_int, isD_non, isNotD_non, isD_bl, non_non, non_bl, non_int, non_str, non_tup, non_ref, eqD_int, neD_int, eqD_bl, ixd_tup, len_tup, len_tl, tuple_tl, bg0, bg1, bg2, bg3, bg4, bg5, at0, at1, at2, at3, optR_some,
  List.map_cons, List.map_nil, List.replicate, List.append_nil, List.nil_append, List.cons_append, List.length_cons, List.length_nil, Nat.reduceAdd, Nat.reduceSub, Nat.reduceEqDiff, Nat.reduceLeDiff, if_true, if_false, reduceIte, List.getElem?_cons_zero, List.getElem?_cons_succ, List.set_cons_zero, List.set_cons_succ, Option.bind, Bool.not_true, Bool.not_false, Bool.false_eq_true, beq_self_eq_true, Bool.and_true, Bool.and_false, Bool.true_and, Bool.false_and, Bool.or_true, Bool.or_false, Bool.true_or, Bool.false_or, cst0, cst1, cst2, cst3, cst4, cst5, cst6, Int.reduceLE, Int.reduceLT, Int.reduceBEq, decide_true, decide_false])
/-! equal values -/
mutual
def okD : D → Bool
  | .non => true
  | .bl _ => true
  | .int _ => true
  | .str x => PyData.strOk x
  | .tup ds => okDs ds
  | .kt _ => false
  | .ref _ => false
def okDs : List D → Bool
  | [] => true
  | d :: ds => okD d && okDs ds
end
mutual
def dpD : D → Nat
  | .tup ds => dpDs ds + 1
  | _ => 0
def dpDs : List D → Nat
  | [] => 0
  | d :: ds => max (dpD d) (dpDs ds)
end
mutual
def pdD : D → PyData
  | .non => .none
  | .bl b => .bool b
  | .int i => .int i
  | .str x => .str x
  | .tup ds => .tuple (pdDs ds)
  | .kt _ => .none
  | .ref _ => .none
def pdDs : List D → List PyData
  | [] => []
  | d :: ds => pdD d :: pdDs ds
end
mutual
theorem data_pd {S : Sto} : ∀ (d : D) (n : Nat), okD d = true → dpD d < n → dataD S n d = some (pdD d)
  | d, 0, _, h => by omega
  | .non, n + 1, _, _ => rfl
  | .bl _, n + 1, _, _ => rfl
  | .int _, n + 1, _, _ => rfl
  | .str _, n + 1, _, _ => rfl
  | .tup ds, n + 1, h, hd => by
    unfold okD at h
    unfold dpD at hd
    show (ds.mapM (dataD S n)).map PyData.tuple = _
    rw [data_pds ds n h (by omega)]
    rfl
  | .kt _, n + 1, h, _ => by unfold okD at h; cases h
  | .ref _, n + 1, h, _ => by unfold okD at h; cases h
theorem data_pds {S : Sto} : ∀ (ds : List D) (n : Nat), okDs ds = true → dpDs ds < n → ds.mapM (dataD S n) = some (pdDs ds)
  | [], n, _, _ => rfl
  | d :: ds, n, h, hd => by
    unfold okDs at h
    unfold dpDs at hd
    rw [Bool.and_eq_true] at h
    rw [List.mapM_cons, data_pd d n h.1 (by omega), data_pds ds n h.2 (by omega)]
    rfl
end
mutual
theorem pd_lay : ∀ d : D, okD d = true → (pdD d).canLay0 = true ∧ (pdD d).depth = dpD d
  | .non, _ => ⟨rfl, rfl⟩
  | .bl _, _ => ⟨rfl, rfl⟩
  | .int _, _ => ⟨rfl, rfl⟩
  | .str _, h => ⟨h, rfl⟩
  | .tup ds, h => by
    unfold okD at h
    obtain ⟨h1, h2⟩ := pds_lay ds h
    exact ⟨h1, congrArg (· + 1) h2⟩
  | .kt _, h => by unfold okD at h; cases h
  | .ref _, h => by unfold okD at h; cases h
theorem pds_lay : ∀ ds : List D, okDs ds = true → PyData.canLayAll0 (pdDs ds) = true ∧ PyData.depthAll (pdDs ds) = dpDs ds
  | [], _ => ⟨rfl, rfl⟩
  | d :: ds, h => by
    unfold okDs at h
    rw [Bool.and_eq_true] at h
    obtain ⟨h1, h2⟩ := pd_lay d h.1
    obtain ⟨h3, h4⟩ := pds_lay ds h.2
    refine ⟨?_, ?_⟩
    · show (PyData.canLay0 (pdD d) && PyData.canLayAll0 (pdDs ds)) = true
      rw [h1, h3]; rfl
    · show max (PyData.depth (pdD d)) (PyData.depthAll (pdDs ds)) = max (dpD d) (dpDs ds)
      rw [h2, h4]
end
theorem pd_shaped {d : D} (h : okD d = true) (hd : dpD d ≤ 60) : SeqAt.shaped (pdD d) = true := by
  obtain ⟨h1, h2⟩ := pd_lay d h
  unfold SeqAt.shaped
  rw [h1, h2, decide_eq_true (by omega)]
  rfl
theorem eqB_self {d : D} (h : okD d = true) (hd : dpD d ≤ 60) (S : Sto) : eqB d d S = some true := by
  unfold eqB
  rw [data_pd d 66 h (by omega)]
  simp only
  rw [if_pos ⟨pd_shaped h hd, pd_shaped h hd⟩, SeqAt.eqv_refl _ (pd_lay d h).1]
theorem eqD_self {d : D} (h : okD d = true) (hd : dpD d ≤ 60) (S : Sto) : eqD d d S = .ok (.d (.bl true)) S := by
  unfold eqD
  rw [eqB_self h hd]
  rfl
theorem neD_self {d : D} (h : okD d = true) (hd : dpD d ≤ 60) (S : Sto) : neD d d S = .ok (.d (.bl false)) S := by
  unfold neD
  rw [eqB_self h hd]
  rfl
/-- a list and the empty one -/
theorem eqB_nil {p q : Nat} {ds : List D} {S : Sto} (h : okDs ds = true) (hd : dpDs ds ≤ 50) (hp : S[p]? = some (.lst ds)) (hq : S[q]? = some (.lst [])) : eqB (.ref p) (.ref q) S = some ds.isEmpty := by
  have e1 : dataD S 66 (.ref p) = some (.list (pdDs ds)) := by
    show (match Ev.listAt S p with | some ds => (ds.mapM (dataD S 65)).map PyData.list | none => none) = _
    rw [listAt_lst hp]
    simp only
    rw [data_pds ds 65 h (by omega)]
    rfl
  have e2 : dataD S 66 (.ref q) = some (.list []) := by
    show (match Ev.listAt S q with | some ds => (ds.mapM (dataD S 65)).map PyData.list | none => none) = _
    rw [listAt_lst hq]
    rfl
  obtain ⟨h1, h2⟩ := pds_lay ds h
  have s1 : SeqAt.shaped (.list (pdDs ds)) = true := by
    unfold SeqAt.shaped
    rw [show (PyData.list (pdDs ds)).canLay0 = true from h1, show (PyData.list (pdDs ds)).depth = dpDs ds + 1 from congrArg (· + 1) h2, decide_eq_true (by omega)]
    rfl
  unfold eqB
  rw [e1, e2]
  simp only
  rw [if_pos ⟨s1, rfl⟩]
  cases ds <;> rfl
theorem eqD_nil {p q : Nat} {ds : List D} {S : Sto} (h : okDs ds = true) (hd : dpDs ds ≤ 50) (hp : S[p]? = some (.lst ds)) (hq : S[q]? = some (.lst [])) : eqD (.ref p) (.ref q) S = .ok (.d (.bl ds.isEmpty)) S := by
  unfold eqD
  rw [eqB_nil h hd hp hq]
  rfl
theorem neD_nil {p q : Nat} {ds : List D} {S : Sto} (h : okDs ds = true) (hd : dpDs ds ≤ 50) (hp : S[p]? = some (.lst ds)) (hq : S[q]? = some (.lst [])) : neD (.ref p) (.ref q) S = .ok (.d (.bl !ds.isEmpty)) S := by
  unfold neD
  rw [eqB_nil h hd hp hq]
  rfl
theorem okDs_map {α : Type} (f : α → D) (l : List α) (h : ∀ a ∈ l, okD (f a) = true) : okDs (l.map f) = true := by
  induction l with
  | nil => rfl
  | cons a l ih =>
    rw [List.map_cons]
    unfold okDs
    rw [h a (List.mem_cons_self ..), ih fun x hx => h x (List.mem_cons_of_mem _ hx)]
    rfl
theorem dpDs_map {α : Type} (f : α → D) (l : List α) {n : Nat} (h : ∀ a ∈ l, dpD (f a) ≤ n) : dpDs (l.map f) ≤ n := by
  induction l with
  | nil => exact Nat.zero_le _
  | cons a l ih =>
    rw [List.map_cons]
    unfold dpDs
    exact Nat.max_le.mpr ⟨h a (List.mem_cons_self ..), ih fun x hx => h x (List.mem_cons_of_mem _ hx)⟩
theorem ok_ints (l : List Nat) : okDs (l.map iD) = true := okDs_map _ _ fun _ _ => rfl
theorem dp_ints (l : List Nat) : dpDs (l.map iD) ≤ 0 := dpDs_map _ _ fun _ _ => Nat.le_refl 0
theorem strOk_tx {l : List Nat} (h : ∀ s ∈ l, s < 1000) : PyData.strOk (tx l) = true := by
  unfold PyData.strOk tx
  rw [Array.all_eq_true_iff_forall_mem]
  intro x hx
  simp at hx
  obtain ⟨s, hs, rfl⟩ := hx
  have := h s hs
  exact decide_eq_true (by omega)
theorem ok_evt {m : Nat} (hm : m ≤ 6) {e : Evt} (h : evOk m e) : okD e.D = true ∧ dpD e.D ≤ 1 := by
  cases e with
  | mark n => exact ⟨by simp only [Evt.D, okD, okDs, Bool.and_true, Bool.true_and]; decide +kernel, Nat.le_refl _⟩
  | opn n => exact ⟨by simp only [Evt.D, okD, okDs, Bool.and_true, Bool.true_and]; decide +kernel, Nat.le_refl _⟩
  | say s =>
    refine ⟨?_, Nat.le_refl _⟩
    have h1 : PyData.strOk (tx [s]) = true := strOk_tx fun x hx => by
      rw [List.mem_singleton.mp hx]
      have : s < m := h
      omega
    have h2 : PyData.strOk "say" = true := by decide +kernel
    simp only [Evt.D, okD, okDs, Bool.and_true, h1]
    exact h2
  | shut => exact ⟨by simp only [Evt.D, okD, okDs, Bool.and_true, Bool.true_and]; decide +kernel, Nat.le_refl _⟩
theorem ok_evs {m : Nat} (hm : m ≤ 6) {es : List Evt} (h : ∀ e ∈ es, evOk m e) : okD (evsD es) = true ∧ dpD (evsD es) ≤ 2 := by
  unfold evsD okD dpD
  exact ⟨okDs_map _ _ fun e he => (ok_evt hm (h e he)).1, Nat.succ_le_succ (dpDs_map _ _ fun e he => (ok_evt hm (h e he)).2)⟩

end K0
namespace K0
open PySem L2 PyProof.Rows Ev
local macro_rules | `(tactic| walk_at "ev") => `(tactic| simp only [sFor_eq, sSeq, sRet, sRetN, sIf, sAsg, sExpr, sNext, sPar, sPar3, sCont, sBreak, sNever, eAndM, eOrM, eNotM, eIf, eChain, eOp, eUn, eC, eV, eCall, eIsi, eIsiT, kitAnyB, eTup, eLst, eBi1, aNil, aCons, tVal, tTru, tNotM, tAndM, tOrM, asB, truB, blR, gNm, iAny, bind_ok, bind_no, force_d, force_tl, force_no, gcR_same, walk_tup, walk_tl, walk_str,
  kit_ii, kit_ib, kit_is, kit_it, kit_il, kit_ss, kit_si, kit_sb, kit_st, kit_sl, kit_tt, kit_ti, kit_tb, kit_ts, kit_tl, kit_ll, kit_li, kit_lb, kit_ls, kit_lt, kit_bb, kit_bi, kit_ni, kit_nb, kit_ns, kit_nt, kit_nl, ty_non, ty_bl, ty_int, ty_str, ty_tup,
  leD_int, geD_int, ltD_int, gtD_int, addD_int, subD_int, isD_non, isNotD_non, isD_bl, non_non, non_bl, non_int, non_str, non_tup, non_ref, eqD_int, neD_int, eqD_bl, ixd_tup, len_tup, len_tl, tuple_tl, bg0, bg1, bg2, bg3, bg4, bg5, at0, at1, at2, at3, optR_some,
  List.map_cons, List.map_nil, List.replicate, List.append_nil, List.nil_append, List.cons_append, List.length_cons, List.length_nil, Nat.reduceAdd, Nat.reduceSub, Nat.reduceEqDiff, Nat.reduceLeDiff, if_true, if_false, reduceIte, List.getElem?_cons_zero, List.getElem?_cons_succ, List.set_cons_zero, List.set_cons_succ, Option.bind, Bool.not_true, Bool.not_false, Bool.false_eq_true, beq_self_eq_true, Bool.and_true, Bool.and_false, Bool.true_and, Bool.false_and, Bool.or_true, Bool.or_false, Bool.true_or, Bool.false_or, cst0, cst1, cst2, cst3, cst4, cst5, cst6, Int.reduceLE, Int.reduceLT, Int.reduceBEq, decide_true, decide_false])
/-! the ways back -/
section
variable {b n n' : Nat} {S0 S1 S2 : Sto} {E : List Edg} {kn : List (Option Nat)} {hm : List (List Nat)} {m : Nat}
variable {y0 y1 y2 y3 y4 y5 y6 y7 y8 y9 y10 y11 y12 : Option D}
@[reducible] noncomputable def ltE : MT := tVal (eOp ltD (eCall f__law_take (aCons (eV 0) (aCons (eC (.int 5)) aNil))) (eC (.int 3)))
theorem Bm.listAt {b : Nat} {S S1 : Sto} {n p : Nat} (h : Bm b S S1 n) (hb : p ≠ b) : Ev.listAt S1 p = Ev.listAt S p := by
  unfold Ev.listAt
  rw [h.keep p hb]
theorem planned_c3 {q : Nat} {ds : List D} (hq : q ≠ b) : ∀ (l : List Nat) (acc : List D) (n : Nat) (S1 : Sto), Bs b S1 n → n + l.length < LIM → acc.length + l.length ≤ 1000 → Ev.listAt S1 q = some ds →
    ∃ (l' : List Nat) (S2 : Sto), loopC (fun S' => Ev.listAt S' q = some ds) (gNm 9) ltE (eV 9) [some (.ref b), y1, y2, y3, y4, y5, y6, y7, y8, none, y10, y11, y12] (l.map iD) acc S1 = .ok (acc ++ l'.map iD) S2 ∧ Bm b S1 S2 (n + l.length) ∧ l'.Sublist l
  | [], acc, n, S1, hB, hn, hl, hc => ⟨[], S1, by
      show guardS (Ev.listAt S1 q = some ds) (.ok acc S1) = _
      rw [guardS_pos hc, List.map_nil, List.append_nil], Bm.refl hB, List.Sublist.refl _⟩
  | s :: l, acc, n, S1, hB, hn, hl, hc => by
    rw [List.length_cons] at hn hl
    obtain ⟨t, S3, ht, e, B⟩ := take_B hB (by omega) (show 0 < 5 by decide) (by omega)
    have e' : f__law_take [.ref b, .int 5] S1 = .ok (.d (.int (t : Int))) S3 := e
    have hc3 : Ev.listAt S3 q = some ds := by rw [B.listAt hq]; exact hc
    have tt : ltE [some (.ref b), y1, y2, y3, y4, y5, y6, y7, y8, some (iD s), y10, y11, y12] S1 = .ok (decide (t < 3)) S3 := by
      repeat first | simp only [e'] | walk_at "ev"
      congr 1
      rw [decide_eq_decide]
      omega
    rw [List.map_cons]
    have go : ∀ acc' : List D, loopC (fun S' => Ev.listAt S' q = some ds) (gNm 9) ltE (eV 9) [some (.ref b), y1, y2, y3, y4, y5, y6, y7, y8, none, y10, y11, y12] (iD s :: l.map iD) acc S1 =
      if decide (t < 3) = true then (force (eV 9 [some (.ref b), y1, y2, y3, y4, y5, y6, y7, y8, some (iD s), y10, y11, y12] S3)).bind fun y S4 => if acc.length < BIG then loopC (fun S' => Ev.listAt S' q = some ds) (gNm 9) ltE (eV 9) [some (.ref b), y1, y2, y3, y4, y5, y6, y7, y8, none, y10, y11, y12] (l.map iD) (acc ++ [y]) S4 else .no
      else loopC (fun S' => Ev.listAt S' q = some ds) (gNm 9) ltE (eV 9) [some (.ref b), y1, y2, y3, y4, y5, y6, y7, y8, none, y10, y11, y12] (l.map iD) acc S3 := fun _ => by
      show guardS (Ev.listAt S1 q = some ds) ((gNm 9 (iD s) [some (.ref b), y1, y2, y3, y4, y5, y6, y7, y8, none, y10, y11, y12] S1).bind fun s1 S1 => (ltE s1 S1).bind fun b' S2 => if b' = true then (force (eV 9 s1 S2)).bind fun y S3 => if acc.length < BIG then loopC (fun S' => Ev.listAt S' q = some ds) (gNm 9) ltE (eV 9) [some (.ref b), y1, y2, y3, y4, y5, y6, y7, y8, none, y10, y11, y12] (l.map iD) (acc ++ [y]) S3 else .no else loopC (fun S' => Ev.listAt S' q = some ds) (gNm 9) ltE (eV 9) [some (.ref b), y1, y2, y3, y4, y5, y6, y7, y8, none, y10, y11, y12] (l.map iD) acc S2) = _
      rw [guardS_pos hc]
      show (ltE [some (.ref b), y1, y2, y3, y4, y5, y6, y7, y8, some (iD s), y10, y11, y12] S1).bind _ = _
      rw [tt, bind_ok]
      rfl
    rw [go acc]
    by_cases h3 : t < 3
    · obtain ⟨l', S2, g1, g2, g3⟩ := planned_c3 hq l (acc ++ [iD s]) (n + 1) S3 B.box (by omega) (by rw [List.length_append, List.length_singleton]; omega) hc3
      refine ⟨s :: l', S2, ?_, (B.trans g2).mono (by rw [List.length_cons]; omega), g3.cons_cons s⟩
      rw [decide_eq_true h3, if_pos rfl]
      show (R.ok (iD s) S3).bind _ = _
      rw [bind_ok, if_pos (Nat.lt_of_lt_of_le (show acc.length < 1001 by omega) (by decide)), g1, List.append_assoc, List.map_cons]
      rfl
    · obtain ⟨l', S2, g1, g2, g3⟩ := planned_c3 hq l acc (n + 1) S3 B.box (by omega) (by omega) hc3
      refine ⟨l', S2, ?_, (B.trans g2).mono (by rw [List.length_cons]; omega), g3.cons s⟩
      rw [decide_eq_false h3, if_neg (by decide), g1]
/-- edges back from node j at the signs l -/
theorem planned_l2 {j cnt q : Nat} {o : O} {chk : Sto → Prop} (hj : j < cnt) (m0 : 0 < m) (hm6 : m ≤ 6) (hq : S0.length + 3 ≤ q) (hC : ∀ S' : Sto, S'[q]? = some o → chk S') : ∀ (l : List Nat) (n : Nat) (E : List Edg) (S1 : Sto) (y9 : Option D), Pl b S0 S1 n E kn hm → n + 8 * l.length < LIM → S1[q]? = some o → l.Nodup → (∀ s ∈ l, s < m ∧ (j, s) ∉ E.map (·.1)) → PlanB m cnt j (j + 1) E kn hm → E.length + l.length < 1000 →
    ∃ S2 E' z9, loopF chk (forB (gNm 9) b__law_planned_l2) (l.map iD) [some (.ref b), some (.int m), y2, some (.ref S0.length), some (.ref (S0.length + 1)), some (.ref (S0.length + 2)), y6, y7, some (iD j), y9, y10, y11, y12] S1 =
      .ok (.nx [some (.ref b), some (.int m), y2, some (.ref S0.length), some (.ref (S0.length + 1)), some (.ref (S0.length + 2)), y6, y7, some (iD j), z9, y10, y11, y12]) S2 ∧ Pl b S0 S2 (n + 8 * l.length) E' kn hm ∧ PlanB m cnt j (j + 1) E' kn hm ∧ E'.length = E.length + l.length ∧ (∀ e ∈ E, e ∈ E') ∧ (l ≠ [] → ∃ s es, ((j, s), (0, es)) ∈ E')
  | [], n, E, S1, y9, hP, hn, hS, nd, hl, pb, hE => ⟨S1, E, y9, lp_nilC (hC _ hS), hP, pb, by simp, fun e h => h, fun h => (h rfl).elim⟩
  | s :: l, n, E, S1, y9, hP, hn, hS, nd, hl, pb, hE => by
    rw [List.length_cons] at hn hE
    rw [List.nodup_cons] at nd
    obtain ⟨hs1, hs2⟩ := hl s (List.mem_cons_self ..)
    have bl := hP.bl
    have i5 := ix_kn (a := j) hP.kn (by rw [pb.kl]; exact hj)
    obtain ⟨es, S3, q1, q2, q3, e3, B3⟩ := law_events_ok (one := kn.getD j none) (other := none) hP.fr.box (by omega) m0 hm6 (fun i q => pb.kk j i q) (fun i q => by cases q)
    have P3 := hP.step B3.fr
    have st := set_ed (a := j) (s := s) (b := 0) (es := es) P3.ed hs2 (by omega)
    have P4 := P3.putE (E ++ [((j, s), (0, es))])
    have hS4 : (S3.set (S0.length + 1) (edO (E ++ [((j, s), (0, es))])))[q]? = some o := by
      rw [List.getElem?_set_ne (by omega)]
      exact B3.at_ hS (by omega)
    have pb' := pb.add (s := s) (es := es) hj hs1 hs2 q1 q2 q3
    have hl' : ∀ x ∈ l, x < m ∧ (j, x) ∉ List.map (fun e : Edg => e.1) (E ++ [((j, s), (0, es))]) := fun x hx => by
      obtain ⟨g1, g2⟩ := hl x (List.mem_cons_of_mem _ hx)
      refine ⟨g1, fun h => ?_⟩
      rw [List.map_append] at h
      rcases List.mem_append.mp h with h | h
      · exact g2 h
      · have : (j, x) = (j, s) := by simpa using h
        cases this
        exact nd.1 hx
    obtain ⟨S2, E', z9, g1, g2, g3, g4, g5, g6⟩ := planned_l2 hj m0 hm6 hq hC l (n + 8) _ _ (some (iD s)) (P4.mono (by omega)) (by omega) hS4 nd.2 hl' pb' (by rw [List.length_append, List.length_singleton]; omega)
    refine ⟨S2, E', z9, ?_, g2.mono (by rw [List.length_cons]; omega), g3, by rw [g4, List.length_append, List.length_singleton, List.length_cons]; omega, fun e h => g5 e (List.mem_append_left _ h), fun _ => ⟨s, es, g5 _ (List.mem_append_right _ (List.mem_singleton.mpr rfl))⟩⟩
    rw [List.map_cons, lp_consC (hC _ hS)]
    have e3' : f__law_events [.ref b, .int m, modeD (kn.getD j none), .non] S1 = .ok (.d (evsD es)) S3 := e3
    have st' : setD (.ref (S0.length + 1)) (.tup [iD j, iD s]) (.tup [.int 0, evsD es]) S3 = .ok () (S3.set (S0.length + 1) (edO (E ++ [((j, s), (0, es))]))) := st
    have step : forB (gNm 9) b__law_planned_l2 (iD s) [some (.ref b), some (.int m), y2, some (.ref S0.length), some (.ref (S0.length + 1)), some (.ref (S0.length + 2)), y6, y7, some (iD j), y9, y10, y11, y12] S1 = .ok (.nx [some (.ref b), some (.int m), y2, some (.ref S0.length), some (.ref (S0.length + 1)), some (.ref (S0.length + 2)), y6, y7, some (iD j), some (iD s), y10, y11, y12]) (S3.set (S0.length + 1) (edO (E ++ [((j, s), (0, es))]))) := by
      unfold forB b__law_planned_l2
      repeat first | simp only [i5, e3', gSb, st'] | walk_at "ev"
    rw [step, bind_ok]
    exact g1
end

end K0
namespace K0
open PySem L2 PyProof.Rows Ev
local macro_rules | `(tactic| walk_at "ev") => `(tactic| simp only [sFor_eq, sSeq, sRet, sRetN, sIf, sAsg, sExpr, sNext, sPar, sPar3, sCont, sBreak, sNever, eAndM, eOrM, eNotM, eIf, eChain, eOp, eUn, eC, eV, eCall, eIsi, eIsiT, kitAnyB, eTup, eLst, eBi1, aNil, aCons, tVal, tTru, tNotM, tAndM, tOrM, asB, truB, blR, gNm, iAny, bind_ok, bind_no, force_d, force_tl, force_no, gcR_same, walk_tup, walk_tl, walk_str,
  kit_ii, kit_ib, kit_is, kit_it, kit_il, kit_ss, kit_si, kit_sb, kit_st, kit_sl, kit_tt, kit_ti, kit_tb, kit_ts, kit_tl, kit_ll, kit_li, kit_lb, kit_ls, kit_lt, kit_bb, kit_bi, kit_ni, kit_nb, kit_ns, kit_nt, kit_nl, ty_non, ty_bl, ty_int, ty_str, ty_tup,
  leD_int, geD_int, ltD_int, gtD_int, addD_int, subD_int, isD_non, isNotD_non, isD_bl, non_non, non_bl, non_int, non_str, non_tup, non_ref, eqD_int, neD_int, eqD_bl, ixd_tup, len_tup, len_tl, tuple_tl, bg0, bg1, bg2, bg3, bg4, bg5, at0, at1, at2, at3, optR_some,
  List.map_cons, List.map_nil, List.replicate, List.append_nil, List.nil_append, List.cons_append, List.length_cons, List.length_nil, Nat.reduceAdd, Nat.reduceSub, Nat.reduceEqDiff, Nat.reduceLeDiff, if_true, if_false, reduceIte, List.getElem?_cons_zero, List.getElem?_cons_succ, List.set_cons_zero, List.set_cons_succ, Option.bind, Bool.not_true, Bool.not_false, Bool.false_eq_true, beq_self_eq_true, Bool.and_true, Bool.and_false, Bool.true_and, Bool.false_and, Bool.or_true, Bool.or_false, Bool.true_or, Bool.false_or, cst0, cst1, cst2, cst3, cst4, cst5, cst6, Int.reduceLE, Int.reduceLT, Int.reduceBEq, decide_true, decide_false])
section
variable {b n n' : Nat} {S0 S1 S2 : Sto} {E : List Edg} {kn : List (Option Nat)} {hm : List (List Nat)} {m : Nat}
variable {y0 y1 y2 y3 y4 y5 y6 y7 y8 y9 y10 y11 y12 : Option D}
def restL (E : List Edg) (m j : Nat) : List Nat := (List.range m).filter fun s => !hasE E j s
theorem restL_mem {E : List Edg} {m j s : Nat} (h : s ∈ restL E m j) : s < m ∧ (j, s) ∉ E.map (·.1) := by
  unfold restL at h
  obtain ⟨h1, h2⟩ := List.mem_filter.mp h
  unfold hasE at h2
  exact ⟨List.mem_range.mp h1, by simpa using h2⟩
theorem restL_nd (E : List Edg) (m j : Nat) : (restL E m j).Nodup := List.nodup_range.filter _
theorem restL_len (E : List Edg) (m j : Nat) : (restL E m j).length ≤ m := Nat.le_trans (List.length_filter_le _ _) (by simp)
theorem cutL_to {α : Type} (l : List α) (k : Nat) : cutL l none (some (k : Int)) = l.take k := by
  unfold cutL
  rw [HT.sIx_none, HT.sIx_nat, List.drop_zero, Nat.sub_zero]
  by_cases h : k ≤ l.length
  · rw [Nat.min_eq_left h]
  · rw [Nat.min_eq_right (by omega), List.take_length, List.take_of_length_le (by omega)]
theorem cutL_from {α : Type} (l : List α) (k : Nat) : cutL l (some (k : Int)) none = l.drop k := by
  unfold cutL
  rw [HT.sIx_none, HT.sIx_nat]
  by_cases h : k ≤ l.length
  · rw [Nat.min_eq_left h, List.take_of_length_le (by rw [List.length_drop]; omega)]
  · rw [Nat.min_eq_right (by omega), List.drop_of_length_le (Nat.le_refl _), List.drop_of_length_le (by omega)]
    simp
theorem cut1 (l : List Nat) : cutL (l.map iD) none (some 1) = (l.take 1).map iD := by
  have := cutL_to (l.map iD) 1
  rw [← List.map_take] at this
  exact this
theorem planned_l3 {j cnt : Nat} (hj : j < cnt) (hc8 : cnt ≤ 8) (m0 : 0 < m) (hm6 : m ≤ 6) (hP : Pl b S0 S1 n E kn hm) (hn : n + 60 < LIM) (pb : PlanB m cnt j j E kn hm) (hE : E.length < 500) :
    ∃ S2 E' z9 z10 z11, forB (gNm 8) b__law_planned_l3 (iD j) [some (.ref b), some (.int m), y2, some (.ref S0.length), some (.ref (S0.length + 1)), some (.ref (S0.length + 2)), y6, y7, y8, y9, y10, y11, y12] S1 =
      .ok (.nx [some (.ref b), some (.int m), y2, some (.ref S0.length), some (.ref (S0.length + 1)), some (.ref (S0.length + 2)), y6, y7, some (iD j), z9, z10, z11, y12]) S2 ∧ Pl b S0 S2 (n + 60) E' kn hm ∧ PlanB m cnt (j + 1) (j + 1) E' kn hm ∧ E'.length ≤ E.length + 6 := by
  have bl := hP.bl
  have lg := hP.long
  have c2 := planned_c2 (y0 := some (.ref b)) (y2 := y2) (y3 := some (.ref S0.length)) (y5 := some (.ref (S0.length + 2))) (y6 := y6) (y7 := y7) (y9 := y9) (y10 := y10) (y11 := y11) (y12 := y12) (a := j) hm6 hP.ed
  change _ = R.ok (XR.tl ((restL E m j).map iD)) S1 at c2
  have rl := restL_len E m j
  have P1 := hP.app [iL (restL E m j)]
  have g1 : (S1 ++ [iL (restL E m j)])[S1.length]? = some (iL (restL E m j)) := getElem?_snoc _ _
  obtain ⟨B, S3, e3, B3, sub⟩ := planned_c3 (q := S1.length) (ds := (restL E m j).map iD) (y1 := some (.int m)) (y2 := y2) (y3 := some (.ref S0.length)) (y4 := some (.ref (S0.length + 1))) (y5 := some (.ref (S0.length + 2))) (y6 := y6) (y7 := y7) (y8 := some (iD j)) (y10 := some (.ref S1.length)) (y11 := y11) (y12 := y12) (by omega) (restL E m j) [] n _ P1.fr.box (by omega) (by simp; omega) (listAt_lst g1)
  rw [List.nil_append] at e3
  have w1 := walk_lst g1
  have cc3 : c__law_planned_3 [some (.ref b), some (.int m), y2, some (.ref S0.length), some (.ref (S0.length + 1)), some (.ref (S0.length + 2)), y6, y7, some (iD j), y9, some (.ref S1.length), y11, y12] (S1 ++ [iL (restL E m j)]) = .ok (.tl (B.map iD)) S3 := by
    unfold c__law_planned_3
    rw [eComp_eq]
    have : iAny (eV 10) [some (.ref b), some (.int m), y2, some (.ref S0.length), some (.ref (S0.length + 1)), some (.ref (S0.length + 2)), y6, y7, some (iD j), y9, some (.ref S1.length), y11, y12] (S1 ++ [iL (restL E m j)]) = _ := w1
    rw [this, bind_ok]
    have e3' : loopC (fun S' => Ev.listAt S' S1.length = some ((restL E m j).map iD)) (gNm 9) ltE (eV 9) (wipeE [some (.ref b), some (.int m), y2, some (.ref S0.length), some (.ref (S0.length + 1)), some (.ref (S0.length + 2)), y6, y7, some (iD j), y9, some (.ref S1.length), y11, y12] [9]) ((restL E m j).map iD) [] (S1 ++ [iL (restL E m j)]) = _ := e3
    rw [e3', bind_ok]
  have P3 := P1.step B3.fr
  have P4 := P3.app [iL B]
  have g4 : (S3 ++ [iL B])[S3.length]? = some (iL B) := getElem?_snoc _ _
  have h3 : S3[S1.length]? = some (iL (restL E m j)) := B3.at_ g1 (by omega)
  have h3l := (List.getElem?_eq_some_iff.mp h3).1
  have P5 := P4.app [.lst []]
  have l4 : (S3 ++ [iL B]).length = S3.length + 1 := by simp
  have g5 : (S3 ++ [iL B] ++ [.lst []])[S3.length]? = some (iL B) := by rw [List.getElem?_append_left (by rw [l4]; omega)]; exact g4
  have g6 : (S3 ++ [iL B] ++ [O.lst []])[(S3 ++ [iL B]).length]? = some (O.lst []) := getElem?_snoc _ _
  have ne := neD_nil (ok_ints B) (Nat.le_trans (dp_ints B) (by decide)) g5 g6
  have g7 : (S3 ++ [iL B] ++ [O.lst []])[S1.length]? = some (iL (restL E m j)) := by
    rw [List.getElem?_append_left (by rw [l4]; omega), List.getElem?_append_left h3l]; exact h3
  obtain ⟨S5, hS5⟩ : ∃ S5, S5 = S3 ++ [iL B] ++ [O.lst []] := ⟨_, rfl⟩
  rw [← hS5] at ne g5 g7 P5
  have lB : B.length ≤ m := Nat.le_trans sub.length_le rl
  obtain ⟨s0, hs0, hs1⟩ := pb.free j (Nat.le_refl _) hj
  have rne : restL E m j ≠ [] := by
    have : s0 ∈ restL E m j := by
      unfold restL
      refine List.mem_filter.mpr ⟨List.mem_range.mpr hs0, ?_⟩
      unfold hasE
      simpa using hs1
    intro q
    rw [q] at this
    cases this
  have fin : ∀ (l : List Nat) (S2 : Sto) (E' : List Edg) (z9 : Option D), l.length ≤ m → l ≠ [] → Pl b S0 S2 (n + (restL E m j).length + 8 * l.length) E' kn hm → PlanB m cnt j (j + 1) E' kn hm → E'.length = E.length + l.length → (l ≠ [] → ∃ s es, ((j, s), (0, es)) ∈ E') → Pl b S0 S2 (n + 60) E' kn hm ∧ PlanB m cnt (j + 1) (j + 1) E' kn hm ∧ E'.length ≤ E.length + 6 := by
    intro l S2 E' z9 hl hne q1 q2 q3 q4
    exact ⟨q1.mono (by omega), q2.next (q4 hne), by omega⟩
  cases hB : B with
  | nil =>
    obtain ⟨S2, E', z9, q1, q2, q3, q4, _, q6⟩ := planned_l2 (y2 := y2) (y6 := y6) (y7 := y7) (y10 := some (.ref S1.length)) (y11 := some (.ref S3.length)) (y12 := y12) (q := S1.length) (o := iL (restL E m j)) (chk := fun _ => True) hj m0 hm6 (by omega) (fun _ _ => True.intro) ((restL E m j).take 1) (n + (restL E m j).length) E S5 y9 P5 (by rw [List.length_take]; omega) g7 ((restL_nd E m j).sublist (List.take_sublist _ _)) (fun s hs => restL_mem (List.mem_of_mem_take hs)) (pb.weak (Nat.le_succ j)) (by rw [List.length_take]; omega)
    have hne : (restL E m j).take 1 ≠ [] := by
      cases hr : restL E m j with
      | nil => exact absurd hr rne
      | cons a l => simp
    obtain ⟨f1, f2, f3⟩ := fin _ S2 E' z9 (by rw [List.length_take]; omega) hne q2 q3 q4 q6
    refine ⟨S2, E', z9, some (.ref S1.length), some (.ref S3.length), ?_, f1, f2, f3⟩
    have sl : slD (.ref S1.length) none (some 1) S5 = .ok (.tl (((restL E m j).take 1).map iD)) S5 := by
      unfold slD
      simp only [listAt_lst g7, cut1]
    have ne' : neD (.ref S3.length) (.ref (S3 ++ [iL B]).length) S5 = .ok (.d (.bl false)) S5 := by
      rw [ne, hB]; rfl
    unfold forB b__law_planned_l3
    repeat first | simp only [c2, cc3, ← hS5, ne', eSl, ePart, sl, q1] | walk_at "ev"
  | cons x xs =>
    obtain ⟨S2, E', z9, q1, q2, q3, q4, _, q6⟩ := planned_l2 (y2 := y2) (y6 := y6) (y7 := y7) (y10 := some (.ref S1.length)) (y11 := some (.ref S3.length)) (y12 := y12) (q := S3.length) (o := iL B) (chk := fun S' => Ev.listAt S' S3.length = some (B.map iD)) hj m0 hm6 (by omega) (fun S' h => listAt_lst h) B (n + (restL E m j).length) E S5 y9 P5 (by omega) g5 ((restL_nd E m j).sublist sub) (fun s hs => restL_mem (sub.subset hs)) (pb.weak (Nat.le_succ j)) (by omega)
    have hne : B ≠ [] := by rw [hB]; simp
    obtain ⟨f1, f2, f3⟩ := fin B S2 E' z9 lB hne q2 q3 q4 q6
    refine ⟨S2, E', z9, some (.ref S1.length), some (.ref S3.length), ?_, f1, f2, f3⟩
    have ne' : neD (.ref S3.length) (.ref (S3 ++ [iL B]).length) S5 = .ok (.d (.bl true)) S5 := by
      rw [ne, hB]; rfl
    have w5 := walk_lst g5
    unfold forB b__law_planned_l3
    repeat first | simp only [c2, cc3, ← hS5, ne', w5, q1] | walk_at "ev"
end

end K0
namespace K0
open PySem L2 PyProof.Rows Ev
local macro_rules | `(tactic| walk_at "ev") => `(tactic| simp only [sFor_eq, sSeq, sRet, sRetN, sIf, sAsg, sExpr, sNext, sPar, sPar3, sCont, sBreak, sNever, eAndM, eOrM, eNotM, eIf, eChain, eOp, eUn, eC, eV, eCall, eIsi, eIsiT, kitAnyB, eTup, eLst, eBi1, aNil, aCons, tVal, tTru, tNotM, tAndM, tOrM, asB, truB, blR, gNm, iAny, bind_ok, bind_no, force_d, force_tl, force_no, gcR_same, walk_tup, walk_tl, walk_str,
  kit_ii, kit_ib, kit_is, kit_it, kit_il, kit_ss, kit_si, kit_sb, kit_st, kit_sl, kit_tt, kit_ti, kit_tb, kit_ts, kit_tl, kit_ll, kit_li, kit_lb, kit_ls, kit_lt, kit_bb, kit_bi, kit_ni, kit_nb, kit_ns, kit_nt, kit_nl, ty_non, ty_bl, ty_int, ty_str, ty_tup,
  leD_int, geD_int, ltD_int, gtD_int, addD_int, subD_int, isD_non, isNotD_non, isD_bl, non_non, non_bl, non_int, non_str, non_tup, non_ref, eqD_int, neD_int, eqD_bl, ixd_tup, len_tup, len_tl, tuple_tl, bg0, bg1, bg2, bg3, bg4, bg5, at0, at1, at2, at3, optR_some,
  List.map_cons, List.map_nil, List.replicate, List.append_nil, List.nil_append, List.cons_append, List.length_cons, List.length_nil, Nat.reduceAdd, Nat.reduceSub, Nat.reduceEqDiff, Nat.reduceLeDiff, if_true, if_false, reduceIte, List.getElem?_cons_zero, List.getElem?_cons_succ, List.set_cons_zero, List.set_cons_succ, Option.bind, Bool.not_true, Bool.not_false, Bool.false_eq_true, beq_self_eq_true, Bool.and_true, Bool.and_false, Bool.true_and, Bool.false_and, Bool.or_true, Bool.or_false, Bool.true_or, Bool.false_or, cst0, cst1, cst2, cst3, cst4, cst5, cst6, Int.reduceLE, Int.reduceLT, Int.reduceBEq, decide_true, decide_false])
section
variable {b n n' : Nat} {S0 S1 S2 : Sto} {E : List Edg} {kn : List (Option Nat)} {hm : List (List Nat)} {m : Nat}
variable {y0 y1 y2 y3 y4 y5 y6 y7 y8 y9 y10 y11 y12 : Option D}
theorem rangeL_sub (a c : Nat) : rangeL (a : Int) (c : Int) = (List.range' a (c - a)).map iD := by
  unfold rangeL
  rw [List.range'_eq_map_range, List.map_map, show ((c : Int) - (a : Int)).toNat = c - a by omega]
  apply List.map_congr_left
  intro i _
  show D.int ((a : Int) + (i : Nat)) = D.int (((a + i : Nat)) : Int)
  rw [Int.natCast_add]
theorem range2_nat {mm mm' : M} {s : Ev.Env} {S S1 S2 : Sto} {a c : Nat} (h : mm s S = .ok (.d (.int (a : Nat))) S1) (h' : mm' s S1 = .ok (.d (.int (c : Nat))) S2) (ha : a ≤ 1000000) (hc : c ≤ 1000000) : iRange2 mm mm' s S = .ok ⟨(List.range' a (c - a)).map iD, fun _ => True⟩ S2 := by
  unfold iRange2
  rw [h, force_d, bind_ok, h', force_d, bind_ok]
  simp only
  rw [if_pos ⟨by omega, by omega, by omega, by omega⟩, rangeL_sub]
theorem planned_loop1 (h2 : 2 ≤ m) (hm6 : m ≤ 6) : ∀ (r k n : Nat) (E : List Edg) (kn : List (Option Nat)) (hm : List (List Nat)) (S1 : Sto) (y6 y7 y8 y9 : Option D), k + r ≤ 8 → n + 20 * r < LIM → Pl b S0 S1 n E kn hm → TreeOk m k E kn hm → E.length < k →
    ∃ S2 E' kn' hm' z6 z7 z8 z9, loopF (fun _ => True) (forB (gNm 6) b__law_planned_l1) ((List.range' k r).map iD) [some (.ref b), some (.int m), y2, some (.ref S0.length), some (.ref (S0.length + 1)), some (.ref (S0.length + 2)), y6, y7, y8, y9, y10, y11, y12] S1 =
      .ok (.nx [some (.ref b), some (.int m), y2, some (.ref S0.length), some (.ref (S0.length + 1)), some (.ref (S0.length + 2)), z6, z7, z8, z9, y10, y11, y12]) S2 ∧ Pl b S0 S2 (n + 20 * r) E' kn' hm' ∧ TreeOk m (k + r) E' kn' hm' ∧ E'.length < k + r
  | 0, k, n, E, kn, hm, S1, y6, y7, y8, y9, hk, hn, hP, t, hE => ⟨S1, E, kn, hm, y6, y7, y8, y9, lp_nil, hP, t, hE⟩
  | r + 1, k, n, E, kn, hm, S1, y6, y7, y8, y9, hk, hn, hP, t, hE => by
    obtain ⟨S2, E', kn', hm', z7, z8, z9, e, P2, t2, hE2⟩ := planned_turn (y2 := y2) (y6 := y6) (y7 := y7) (y8 := y8) (y9 := y9) (y10 := y10) (y11 := y11) (y12 := y12) h2 hm6 (show n + 20 < LIM by omega) (show k < 8 by omega) hP t hE
    obtain ⟨S3, E3, kn3, hm3, w6, w7, w8, w9, e3, P3, t3, hE3⟩ := planned_loop1 h2 hm6 r (k + 1) (n + 20) E' kn' hm' S2 (some (iD k)) z7 z8 z9 (by omega) (by omega) P2 t2 hE2
    refine ⟨S3, E3, kn3, hm3, w6, w7, w8, w9, ?_, P3.mono (by omega), by rw [show k + (r + 1) = k + 1 + r by omega]; exact t3, by omega⟩
    rw [List.range'_succ, List.map_cons, lp_cons, e, bind_ok]
    exact e3
theorem planned_loop3 {cnt : Nat} (hc8 : cnt ≤ 8) (m0 : 0 < m) (hm6 : m ≤ 6) : ∀ (r j n : Nat) (E : List Edg) (S1 : Sto) (y8 y9 y10 y11 : Option D), j + r = cnt → n + 60 * r < LIM → Pl b S0 S1 n E kn hm → PlanB m cnt j j E kn hm → E.length + 6 * r < 500 →
    ∃ S2 E' z8 z9 z10 z11, loopF (fun _ => True) (forB (gNm 8) b__law_planned_l3) ((List.range' j r).map iD) [some (.ref b), some (.int m), y2, some (.ref S0.length), some (.ref (S0.length + 1)), some (.ref (S0.length + 2)), y6, y7, y8, y9, y10, y11, y12] S1 =
      .ok (.nx [some (.ref b), some (.int m), y2, some (.ref S0.length), some (.ref (S0.length + 1)), some (.ref (S0.length + 2)), y6, y7, z8, z9, z10, z11, y12]) S2 ∧ Pl b S0 S2 (n + 60 * r) E' kn hm ∧ PlanB m cnt cnt cnt E' kn hm ∧ E'.length ≤ E.length + 6 * r
  | 0, j, n, E, S1, y8, y9, y10, y11, hj, hn, hP, pb, hE => by
    have : j = cnt := by omega
    subst this
    exact ⟨S1, E, y8, y9, y10, y11, lp_nil, hP, pb, by omega⟩
  | r + 1, j, n, E, S1, y8, y9, y10, y11, hj, hn, hP, pb, hE => by
    obtain ⟨S2, E', z9, z10, z11, e, P2, pb2, hE2⟩ := planned_l3 (y2 := y2) (y6 := y6) (y7 := y7) (y8 := y8) (y9 := y9) (y10 := y10) (y11 := y11) (y12 := y12) (show j < cnt by omega) hc8 m0 hm6 hP (by omega) pb (by omega)
    obtain ⟨S3, E3, w8, w9, w10, w11, e3, P3, pb3, hE3⟩ := planned_loop3 hc8 m0 hm6 r (j + 1) (n + 60) E' S2 (some (iD j)) z9 z10 z11 (by omega) (by omega) P2 pb2 (by omega)
    refine ⟨S3, E3, w8, w9, w10, w11, ?_, P3.mono (by omega), pb3, by omega⟩
    rw [List.range'_succ, List.map_cons, lp_cons, e, bind_ok]
    exact e3
theorem law_planned_ok {cnt : Nat} {S : Sto} (hB : Bs b S n) (hn : n + 1000 < LIM) (h2 : 2 ≤ m) (hm6 : m ≤ 6) (h1 : 1 ≤ cnt) (h8 : cnt ≤ 8) :
    ∃ (S1 : Sto) (E : List Edg) (kn : List (Option Nat)) (hm : List (List Nat)), f__law_planned [.ref b, .int m, .int cnt] S = .ok (.tl [.int m, .ref (S.length + 1), .ref S.length, .ref (S.length + 2)]) S1 ∧ Pl b S S1 (n + 1000) E kn hm ∧ PlanOk m cnt E kn hm ∧ E.length ≤ 100 := by
  have bl := hB.lt
  obtain ⟨T, hT⟩ : ∃ T, T = S ++ [O.lst [.non]] ++ [.dct []] ++ [.lst [.str ""]] := ⟨_, rfl⟩
  have tl1 : (S ++ [O.lst [D.non]]).length = S.length + 1 := by simp
  have tl2 : (S ++ [O.lst [D.non]] ++ [O.dct []]).length = S.length + 2 := by simp
  have P0 : Pl b S T n [] [none] [[]] := by
    have F : Fr b S T n := by
      rw [hT, List.append_assoc, List.append_assoc]
      exact (Fr.refl hB).app _
    refine ⟨F, bl, ?_, ?_, ?_⟩
    · rw [hT, List.append_assoc, List.append_assoc, List.getElem?_append_right (Nat.le_refl _), Nat.sub_self]
      rfl
    · rw [hT, List.append_assoc, List.append_assoc, List.getElem?_append_right (by omega), show S.length + 1 - S.length = 1 by omega]
      rfl
    · rw [hT, List.append_assoc, List.append_assoc, List.getElem?_append_right (by omega), show S.length + 2 - S.length = 2 by omega]
      show some (O.lst [.str ""]) = some (O.lst [.str (tx [])])
      rw [tx_nil]
  obtain ⟨S2, E, kn, hm, z6, z7, z8, z9, e1, P2, t2, hE⟩ := planned_loop1 (y2 := some (.int cnt)) (y10 := none) (y11 := none) (y12 := none) h2 hm6 (cnt - 1) 1 n [] [none] [[]] T none none none none (by omega) (by omega) P0 (TreeOk.start h2) (by simp)
  rw [show 1 + (cnt - 1) = cnt by omega] at t2
  obtain ⟨S3, E3, w8, w9, w10, w11, e3, P3, pb, hE3⟩ := planned_loop3 (y2 := some (.int cnt)) (y6 := z6) (y7 := z7) (y12 := none) h8 (by omega) hm6 cnt 0 (n + 20 * (cnt - 1)) E S2 z8 z9 none none (by omega) (by omega) P2 t2.planB (by omega)
  have r1 := range2_nat (mm := eC (.int 1)) (mm' := eV 2) (s := [some (.ref b), some (.int m), some (.int cnt), some (.ref S.length), some (.ref (S.length + 1)), some (.ref (S.length + 2)), none, none, none, none, none, none, none]) (S := T) (S1 := T) (S2 := T) (a := 1) (c := cnt) rfl rfl (by omega) (by omega)
  have r3 := range1_nat (mm := eV 2) (s := [some (.ref b), some (.int m), some (.int cnt), some (.ref S.length), some (.ref (S.length + 1)), some (.ref (S.length + 2)), z6, z7, z8, z9, none, none, none]) (S := S2) (S1 := S2) (n := cnt) rfl (by omega)
  rw [List.range_eq_range'] at r3
  refine ⟨S3, E3, kn, hm, ?_, P3.mono (by omega), pb.planOk h2 hm6 h8, by omega⟩
  have gc : gcR S (.tl [.int m, .ref (S.length + 1), .ref S.length, .ref (S.length + 2)]) S3 = .ok (.tl [.int m, .ref (S.length + 1), .ref S.length, .ref (S.length + 2)]) S3 := by
    unfold gcR
    rw [if_neg]
    rintro ⟨h, _⟩
    simp [clX, clD, clDs] at h
  unfold f__law_planned b__law_planned runF
  repeat first | simp only [eDctNew, gTp, gsCons, gsNil, seqD_tup, tl1, tl2, ← hT, r1, e1, r3, e3, gc] | walk_at "ev"
end

end K0
namespace K0
open PySem L2 PyProof.Rows Ev
local macro_rules | `(tactic| walk_at "ev") => `(tactic| simp only [sFor_eq, sSeq, sRet, sRetN, sIf, sAsg, sExpr, sNext, sPar, sPar3, sCont, sBreak, sNever, eAndM, eOrM, eNotM, eIf, eChain, eOp, eUn, eC, eV, eCall, eIsi, eIsiT, kitAnyB, eTup, eLst, eBi1, aNil, aCons, tVal, tTru, tNotM, tAndM, tOrM, asB, truB, blR, gNm, iAny, bind_ok, bind_no, force_d, force_tl, force_no, gcR_same, walk_tup, walk_tl, walk_str,
  kit_ii, kit_ib, kit_is, kit_it, kit_il, kit_ss, kit_si, kit_sb, kit_st, kit_sl, kit_tt, kit_ti, kit_tb, kit_ts, kit_tl, kit_ll, kit_li, kit_lb, kit_ls, kit_lt, kit_bb, kit_bi, kit_ni, kit_nb, kit_ns, kit_nt, kit_nl, ty_non, ty_bl, ty_int, ty_str, ty_tup,
  leD_int, geD_int, ltD_int, gtD_int, addD_int, subD_int, isD_non, isNotD_non, isD_bl, non_non, non_bl, non_int, non_str, non_tup, non_ref, eqD_int, neD_int, eqD_bl, ixd_tup, len_tup, len_tl, tuple_tl, bg0, bg1, bg2, bg3, bg4, bg5, at0, at1, at2, at3, optR_some,
  List.map_cons, List.map_nil, List.replicate, List.append_nil, List.nil_append, List.cons_append, List.length_cons, List.length_nil, Nat.reduceAdd, Nat.reduceSub, Nat.reduceEqDiff, Nat.reduceLeDiff, if_true, if_false, reduceIte, List.getElem?_cons_zero, List.getElem?_cons_succ, List.set_cons_zero, List.set_cons_succ, Option.bind, Bool.not_true, Bool.not_false, Bool.false_eq_true, beq_self_eq_true, Bool.and_true, Bool.and_false, Bool.true_and, Bool.false_and, Bool.or_true, Bool.or_false, Bool.true_or, Bool.false_or, cst0, cst1, cst2, cst3, cst4, cst5, cst6, Int.reduceLE, Int.reduceLT, Int.reduceBEq, decide_true, decide_false])
/-! other numbers for all nodes -/
section
variable {b n n' : Nat} {S S0 S1 S2 : Sto}
theorem erase_map {α β : Type} (f : α → β) : ∀ (l : List α) (i : Nat), (l.map f).eraseIdx i = (l.eraseIdx i).map f
  | [], i => by simp
  | a :: l, 0 => rfl
  | a :: l, i + 1 => by
    show f a :: (l.map f).eraseIdx i = f a :: (l.eraseIdx i).map f
    rw [erase_map f l i]
theorem erase_perm {α : Type} : ∀ (l : List α) (i : Nat) (x : α), l[i]? = some x → (x :: l.eraseIdx i).Perm l
  | [], i, x, h => by simp at h
  | a :: l, 0, x, h => by
    simp at h
    subst h
    exact List.Perm.refl _
  | a :: l, i + 1, x, h => by
    have := erase_perm l i x (by simpa using h)
    show (x :: a :: l.eraseIdx i).Perm (a :: l)
    exact (List.Perm.swap a x _).trans (this.cons a)
theorem pop_iL {p i k : Nat} {l : List Nat} {S : Sto} (h : S[p]? = some (iL l)) (hi : l[i]? = some k) (hl : l.length ≤ 1000) : mPop "list" (.ref p) [.int (i : Int)] S = .ok (.d (iD k)) (S.set p (iL (l.eraseIdx i))) := by
  have hi' := (List.getElem?_eq_some_iff.mp hi).1
  have e1 : (0 ≤ (i : Int) ∧ (i : Int) < (((l.map iD).length : Nat) : Int) ∧ (l.map iD).length ≤ BIG) := ⟨by omega, by rw [List.length_map]; omega, by rw [List.length_map]; exact Nat.le_trans hl (by decide)⟩
  have e2 : (l.map iD)[(i : Int).toNat]? = some (iD k) := by rw [Int.toNat_natCast, List.getElem?_map, hi]; rfl
  unfold mPop
  rw [if_pos rfl]
  simp only [withL, h]
  rw [if_pos e1]
  simp only [e2]
  rw [Int.toNat_natCast, erase_map]
theorem ex_get {l : List Nat} {i : Nat} (h : i < l.length) : ∃ k, l[i]? = some k := ⟨_, List.getElem?_eq_getElem h⟩
variable {y0 y1 y2 y3 y4 : Option D}
theorem order_loop {p q : Nat} (hb : b < S0.length) (hp : S0.length ≤ p) (hq : S0.length ≤ q) (hpq : p ≠ q) : ∀ (r k n : Nat) (rest found : List Nat) (S1 : Sto) (y4 : Option D), Fr b S0 S1 n → S1[p]? = some (iL rest) → S1[q]? = some (iL found) → rest.length = r → n + r < LIM → r ≤ 100 → found.length + r ≤ 100 →
    ∃ S2 z4 found', loopF (fun _ => True) (forB (gNm 4) b__law_order_l0) ((List.range' k r).map iD) [some (.ref b), y1, some (.ref p), some (.ref q), y4] S1 = .ok (.nx [some (.ref b), y1, some (.ref p), some (.ref q), z4]) S2 ∧ Fr b S0 S2 (n + r) ∧ S2[q]? = some (iL (found ++ found')) ∧ found'.Perm rest
  | 0, k, n, rest, found, S1, y4, hF, h1, h2, hr, hn, hr2, hf => ⟨S1, y4, [], lp_nil, hF, by rw [List.append_nil]; exact h2, by rw [List.length_eq_zero_iff.mp hr]⟩
  | r + 1, k, n, rest, found, S1, y4, hF, h1, h2, hr, hn, hr2, hf => by
    have ln := len_lst h1
    rw [List.length_map] at ln
    obtain ⟨t, S3, ht, e, B⟩ := take_B hF.box (by omega) (show 0 < rest.length by omega) (by omega)
    have g1 := B.at_ h1 (by omega)
    have g2 := B.at_ h2 (by omega)
    obtain ⟨x, hx⟩ := ex_get ht
    have po := pop_iL g1 hx (by omega)
    have F4 := (hF.trans B.fr).put (p := p) (iL (rest.eraseIdx t)) hp hb
    have pl := (List.getElem?_eq_some_iff.mp g1).1
    have g4 : (S3.set p (iL (rest.eraseIdx t)))[q]? = some (iL found) := by rw [List.getElem?_set_ne hpq]; exact g2
    have ql := (List.getElem?_eq_some_iff.mp g4).1
    have ap := append_iD (k := x) g4 (Nat.lt_of_le_of_lt (show found.length ≤ 100 by omega) (by decide))
    have F5 := F4.put (p := q) (iL (found ++ [x])) hq hb
    have g5 : ((S3.set p (iL (rest.eraseIdx t))).set q (iL (found ++ [x])))[p]? = some (iL (rest.eraseIdx t)) := by
      rw [List.getElem?_set_ne (Ne.symm hpq), List.getElem?_set_self pl]
    obtain ⟨S2, z4, found', q1, q2, q3, q4⟩ := order_loop hb hp hq hpq r (k + 1) (n + 1) (rest.eraseIdx t) (found ++ [x]) _ (some (iD k)) F5 g5 (List.getElem?_set_self ql) (by rw [List.length_eraseIdx_of_lt ht]; omega) (by omega) (by omega) (by rw [List.length_append, List.length_singleton]; omega)
    have ty2 := tyD_lst h2
    have ty3 := tyD_lst h1
    refine ⟨S2, z4, x :: found', ?_, by rw [show n + (r + 1) = n + 1 + r by omega]; exact q2, by rw [q3, List.append_assoc]; rfl, ?_⟩
    · rw [List.range'_succ, List.map_cons, lp_cons]
      have step : forB (gNm 4) b__law_order_l0 (iD k) [some (.ref b), y1, some (.ref p), some (.ref q), y4] S1 = .ok (.nx [some (.ref b), y1, some (.ref p), some (.ref q), some (iD k)]) ((S3.set p (iL (rest.eraseIdx t))).set q (iL (found ++ [x]))) := by
        unfold forB b__law_order_l0
        repeat first | simp only [eMeth, ty2, ty3, ln, e, po, ap] | walk_at "ev"
      rw [step, bind_ok]
      exact q1
    · exact (q4.cons x).trans (erase_perm rest t x hx)
theorem lstRg2_nat {mm mm' : M} {s : Ev.Env} {S S1 S2 : Sto} {a c : Nat} (h : mm s S = .ok (.d (.int (a : Nat))) S1) (h' : mm' s S1 = .ok (.d (.int (c : Nat))) S2) (ha : a ≤ 1000000) (hc : c ≤ 1000000) : eLstRg (iRange2 mm mm') s S = .ok (.tl ((List.range' a (c - a)).map iD)) S2 := by
  unfold eLstRg
  rw [range2_nat h h' ha hc, bind_ok]
  simp only
  rw [if_pos (by simp; omega)]
theorem law_order_ok {cnt : Nat} (hB : Bs b S n) (hn : n + 100 < LIM) (h1 : 1 ≤ cnt) (h8 : cnt ≤ 8) : ∃ (S1 : Sto) (od : List Nat), f__law_order [.ref b, .int cnt] S = .ok (.d (.ref (S.length + 1))) S1 ∧ Fr b S S1 (n + 100) ∧ S1[S.length + 1]? = some (iL od) ∧ OrdOk cnt od := by
  have bl := hB.lt
  obtain ⟨T, hT⟩ : ∃ T, T = S ++ [iL (List.range' 1 (cnt - 1))] ++ [iL [0]] := ⟨_, rfl⟩
  have F : Fr b S T n := by
    rw [hT, List.append_assoc]
    exact (Fr.refl hB).app _
  have t1 : T[S.length]? = some (iL (List.range' 1 (cnt - 1))) := by
    rw [hT, List.append_assoc, List.getElem?_append_right (Nat.le_refl _), Nat.sub_self]
    rfl
  have t2 : T[S.length + 1]? = some (iL [0]) := by
    rw [hT, List.append_assoc, List.getElem?_append_right (by omega), show S.length + 1 - S.length = 1 by omega]
    rfl
  obtain ⟨S2, z4, fd, q1, q2, q3, q4⟩ := order_loop (y1 := some (.int cnt)) bl (Nat.le_refl _) (show S.length ≤ S.length + 1 by omega) (by omega) (cnt - 1) 1 n (List.range' 1 (cnt - 1)) [0] T none F t1 t2 (by simp) (by omega) (by omega) (by simp; omega)
  have tl1 : (S ++ [iL (List.range' 1 (cnt - 1))]).length = S.length + 1 := by simp
  have r0 := lstRg2_nat (mm := eC (.int 1)) (mm' := eV 1) (s := [some (.ref b), some (.int cnt), none, none, none]) (S := S) (S1 := S) (S2 := S) (a := 1) (c := cnt) rfl rfl (by omega) (by omega)
  have r1 := range2_nat (mm := eC (.int 1)) (mm' := eV 1) (s := [some (.ref b), some (.int cnt), some (.ref S.length), some (.ref (S.length + 1)), none]) (S := T) (S1 := T) (S2 := T) (a := 1) (c := cnt) rfl rfl (by omega) (by omega)
  have nd : ([0] ++ fd).Nodup := by
    have h0 : (0 :: List.range' 1 (cnt - 1)).Nodup := by
      rw [List.nodup_cons]
      exact ⟨by simp, List.nodup_range' ..⟩
    exact ((q4.cons 0).nodup_iff).mpr h0
  refine ⟨S2, [0] ++ fd, ?_, q2.mono (by omega), q3, ⟨?_, nd, fun k hk => ?_, rfl⟩⟩
  · have gc : gcR S (.d (.ref (S.length + 1))) S2 = .ok (.d (.ref (S.length + 1))) S2 := by
      unfold gcR
      rw [if_neg]
      rintro ⟨h, _⟩
      simp [clX, clD] at h
      omega
    have hT' : T = S ++ [O.lst ((List.range' 1 (cnt - 1)).map iD)] ++ [O.lst [D.int 0]] := hT
    unfold f__law_order b__law_order runF
    repeat first | simp only [r0, tl1, ← hT', r1, q1, gc] | walk_at "ev"
  · rw [List.length_append, q4.length_eq]
    simp
    omega
  · rcases List.mem_append.mp hk with hk | hk
    · rw [List.mem_singleton.mp hk]; exact h1
    · have := (q4.mem_iff.mp hk)
      simp at this
      omega
end

end K0
namespace K0
open PySem L2 PyProof.Rows Ev
local macro_rules | `(tactic| walk_at "ev") => `(tactic| simp only [sFor_eq, sSeq, sRet, sRetN, sIf, sAsg, sExpr, sNext, sPar, sPar3, sCont, sBreak, sNever, eAndM, eOrM, eNotM, eIf, eChain, eOp, eUn, eC, eV, eCall, eIsi, eIsiT, kitAnyB, eTup, eLst, eBi1, aNil, aCons, tVal, tTru, tNotM, tAndM, tOrM, asB, truB, blR, gNm, iAny, bind_ok, bind_no, force_d, force_tl, force_no, gcR_same, walk_tup, walk_tl, walk_str,
  kit_ii, kit_ib, kit_is, kit_it, kit_il, kit_ss, kit_si, kit_sb, kit_st, kit_sl, kit_tt, kit_ti, kit_tb, kit_ts, kit_tl, kit_ll, kit_li, kit_lb, kit_ls, kit_lt, kit_bb, kit_bi, kit_ni, kit_nb, kit_ns, kit_nt, kit_nl, ty_non, ty_bl, ty_int, ty_str, ty_tup,
  leD_int, geD_int, ltD_int, gtD_int, addD_int, subD_int, isD_non, isNotD_non, isD_bl, non_non, non_bl, non_int, non_str, non_tup, non_ref, eqD_int, neD_int, eqD_bl, ixd_tup, len_tup, len_tl, tuple_tl, bg0, bg1, bg2, bg3, bg4, bg5, at0, at1, at2, at3, optR_some,
  List.map_cons, List.map_nil, List.replicate, List.append_nil, List.nil_append, List.cons_append, List.length_cons, List.length_nil, Nat.reduceAdd, Nat.reduceSub, Nat.reduceEqDiff, Nat.reduceLeDiff, if_true, if_false, reduceIte, List.getElem?_cons_zero, List.getElem?_cons_succ, List.set_cons_zero, List.set_cons_succ, Option.bind, Bool.not_true, Bool.not_false, Bool.false_eq_true, beq_self_eq_true, Bool.and_true, Bool.and_false, Bool.true_and, Bool.false_and, Bool.or_true, Bool.or_false, Bool.true_or, Bool.false_or, cst0, cst1, cst2, cst3, cst4, cst5, cst6, Int.reduceLE, Int.reduceLT, Int.reduceBEq, decide_true, decide_false])
/-! stores that only grow -/
structure Ex (S S1 : Sto) : Prop where
  len : S.length ≤ S1.length
  keep : ∀ p, p < S.length → S1[p]? = S[p]?
theorem Ex.refl (S : Sto) : Ex S S := ⟨Nat.le_refl _, fun _ _ => rfl⟩
theorem Ex.trans {S S1 S2 : Sto} (h : Ex S S1) (k : Ex S1 S2) : Ex S S2 := ⟨Nat.le_trans h.len k.len, fun p hp => by rw [k.keep p (Nat.lt_of_lt_of_le hp h.len), h.keep p hp]⟩
theorem Ex.app {S S1 : Sto} (h : Ex S S1) (T : Sto) : Ex S (S1 ++ T) := ⟨by rw [List.length_append]; exact Nat.le_trans h.len (Nat.le_add_right _ _), fun p hp => by rw [List.getElem?_append_left (Nat.lt_of_lt_of_le hp h.len)]; exact h.keep p hp⟩
theorem Ex.put {S S1 : Sto} (h : Ex S S1) {p : Nat} (o : O) (hp : S.length ≤ p) : Ex S (S1.set p o) := ⟨by rw [List.length_set]; exact h.len, fun q hq => by rw [List.getElem?_set_ne (by omega)]; exact h.keep q hq⟩
theorem Ex.at_ {S S1 : Sto} (h : Ex S S1) {p : Nat} {o : O} (hp : S[p]? = some o) : S1[p]? = some o := by rw [h.keep p (List.getElem?_eq_some_iff.mp hp).1]; exact hp
theorem Ex.gc {S S1 : Sto} {v : XR} (h : Ex S S1) (hv : clX S.length v = true) : gcR S v S1 = .ok v S := by
  have e : S1 = S ++ S1.drop S.length := by
    apply List.ext_getElem?
    intro n
    by_cases hn : n < S.length
    · rw [List.getElem?_append_left hn]; exact h.keep n hn
    · rw [List.getElem?_append_right (by omega), List.getElem?_drop]
      congr 1
      omega
  rw [e]
  exact gcR_app hv
theorem mul_non {p n : Nat} {S : Sto} (h : S[p]? = some (.lst [.non])) (hn : n ≤ 1000) : mulD (.ref p) (.int (n : Nat)) S = .ok (.tl (List.replicate n D.non)) S := by
  unfold mulD
  simp only [h]
  rw [if_pos ⟨by omega, by omega, Nat.le_trans (show [D.non].length * (n : Int).toNat ≤ 1000 by simp; omega) (by decide)⟩, Int.toNat_natCast]
  congr 2
  simp
/-- a plan as it stands in the store -/
structure PlanAt (S : Sto) (pl ed kr ho m : Nat) (E : List Edg) (kn : List (Option Nat)) (hm : List (List Nat)) : Prop where
  pl : S[pl]? = some (.lst [.int m, .ref ed, .ref kr, .ref ho])
  ed : S[ed]? = some (edO E)
  kn : S[kr]? = some (.lst (kn.map modeD))
  hm : S[ho]? = some (.lst (hm.map fun h => .str (tx h)))
section
variable {S S0 S1 S2 : Sto} {pl ed kr ho m n : Nat} {E : List Edg} {kn : List (Option Nat)} {hm : List (List Nat)} {od : List Nat}
theorem PlanAt.ex (p : PlanAt S pl ed kr ho m E kn hm) (h : Ex S S1) : PlanAt S1 pl ed kr ho m E kn hm := ⟨h.at_ p.pl, h.at_ p.ed, h.at_ p.kn, h.at_ p.hm⟩
theorem PlanAt.ne {b : Nat} (p : PlanAt S pl ed kr ho m E kn hm) (hb : Bs b S n) (hE : ∀ x, edO E ≠ boxO x) : True := trivial
theorem seqD_lst {p : Nat} {ds : List D} {S : Sto} (h : S[p]? = some (.lst ds)) : seqD (.ref p) S = some ds := listAt_lst h
/-- the same with other numbers -/
def renE (od : List Nat) (e : Ent) : Ent := e.map fun p => (od.getD p.1 0, p.2)
variable {y0 y1 y2 y3 y4 y5 y6 y7 y8 y9 y10 : Option D}
theorem rows_l0 {op q a : Nat} (hod : ∀ p ∈ E, p.2.1 < od.length) : ∀ (l : List Nat) (S1 : Sto) (acc : List Ent) (y9 y10 : Option D), S1[ed]? = some (edO E) → S1[op]? = some (iL od) → S0.length ≤ q → Ex S0 S1 → S1[q]? = some (.lst (acc.map entD)) → acc.length + l.length ≤ 1000 → ed < S0.length → op < S0.length →
    ∃ S2 z9 z10, loopF (fun _ => True) (forB (gNm 9) b__law_rows_l0) (l.map iD) [y0, some (.ref op), y2, some (.ref ed), y4, y5, y6, some (iD a), some (.ref q), y9, y10] S1 = .ok (.nx [y0, some (.ref op), y2, some (.ref ed), y4, y5, y6, some (iD a), some (.ref q), z9, z10]) S2 ∧ Ex S0 S2 ∧ S2[q]? = some (.lst ((acc ++ l.map fun s => renE od (lk E a s)).map entD)) ∧ ∀ p, p ≠ q → S2[p]? = S1[p]?
  | [], S1, acc, y9, y10, h1, h2, hq, hx, h3, hl, he, ho => ⟨S1, y9, y10, lp_nil, hx, by rw [List.map_nil, List.append_nil]; exact h3, fun _ _ => rfl⟩
  | s :: l, S1, acc, y9, y10, h1, h2, hq, hx, h3, hl, he, ho => by
    rw [List.length_cons] at hl
    have ty1 := tyD_dct h1
    have ty3 := tyD_lst h3
    have mg := mget_ed (a := a) (s := s) h1
    have ql := (List.getElem?_eq_some_iff.mp h3).1
    have ap : ∀ d : D, mAppend "list" (.ref q) [d] S1 = .ok (.d .non) (S1.set q (.lst (acc.map entD ++ [d]))) := fun d => append_D h3 (Nat.lt_of_le_of_lt (show (acc.map entD).length ≤ 1000 by rw [List.length_map]; omega) (by decide))
    have e1 : acc.map entD ++ [entD (renE od (lk E a s))] = (acc ++ [renE od (lk E a s)]).map entD := by rw [List.map_append]; rfl
    have hx2 := hx.put (p := q) (.lst ((acc ++ [renE od (lk E a s)]).map entD)) hq
    obtain ⟨S2, z9, z10, g1, g2, g3, g4⟩ := rows_l0 hod l (S1.set q (.lst ((acc ++ [renE od (lk E a s)]).map entD))) (acc ++ [renE od (lk E a s)]) (some (iD s)) (some (entD (lk E a s))) (by rw [List.getElem?_set_ne (by omega)]; exact h1) (by rw [List.getElem?_set_ne (by omega)]; exact h2) hq hx2 (List.getElem?_set_self ql) (by rw [List.length_append, List.length_singleton]; omega) he ho
    refine ⟨S2, z9, z10, ?_, g2, ?_, fun p hp => by rw [g4 p hp, List.getElem?_set_ne (Ne.symm hp)]⟩
    · rw [List.map_cons, lp_cons]
      have step : forB (gNm 9) b__law_rows_l0 (iD s) [y0, some (.ref op), y2, some (.ref ed), y4, y5, y6, some (iD a), some (.ref q), y9, y10] S1 = .ok (.nx [y0, some (.ref op), y2, some (.ref ed), y4, y5, y6, some (iD a), some (.ref q), some (iD s), some (entD (lk E a s))]) (S1.set q (.lst ((acc ++ [renE od (lk E a s)]).map entD))) := by
        rw [← e1]
        unfold forB b__law_rows_l0
        cases hlk : lk E a s with
        | none =>
          rw [hlk] at mg
          simp only [entD, renE, Option.map_none] at mg ⊢
          repeat first | simp only [eMeth, ty1, ty3, mg, ap] | walk_at "ev"
        | some p =>
          obtain ⟨k, es⟩ := p
          rw [hlk] at mg
          have hk : k < od.length := hod _ (lk_mem hlk)
          have ix := ixL (k := od.getD k 0) h2 (i := k) (by rw [List.getD_eq_getElem?_getD, List.getElem?_eq_getElem hk]; rfl)
          simp only [entD, renE, Option.map_some] at mg ⊢
          repeat first | simp only [eMeth, ty1, ty3, mg, ap, ix] | walk_at "ev"
      rw [step, bind_ok]
      exact g1
    · rw [g3, List.append_assoc]
      rfl
def orowD : Option (List Ent) → D
  | none => .non
  | some r => rowD r
theorem rows_l1 {op r : Nat} (p : PlanOk m n E kn hm) (o : OrdOk n od) (hr : S0.length ≤ r) (he : S0[ed]? = some (edO E)) (ho : S0[op]? = some (iL od)) : ∀ (w k : Nat) (S1 : Sto) (R : List (Option (List Ent))) (y7 y8 y9 y10 : Option D), k + w = n → Ex S0 S1 → S1[r]? = some (.lst (R.map orowD)) → R.length = n → (∀ a, a < k → R[od.getD a 0]? = some (some (rowOf E m od a))) →
    ∃ (S2 : Sto) (R' : List (Option (List Ent))) (z7 z8 z9 z10 : Option D), loopF (fun _ => True) (forB (gNm 7) b__law_rows_l1) ((List.range' k w).map iD) [y0, some (.ref op), some (.int m), some (.ref ed), y4, y5, some (.ref r), y7, y8, y9, y10] S1 = .ok (.nx [y0, some (.ref op), some (.int m), some (.ref ed), y4, y5, some (.ref r), z7, z8, z9, z10]) S2 ∧ Ex S0 S2 ∧ S2[r]? = some (.lst (R'.map orowD)) ∧ R'.length = n ∧ ∀ a, a < n → R'[od.getD a 0]? = some (some (rowOf E m od a))
  | 0, k, S1, R, y7, y8, y9, y10, hk, hx, h1, hR, hd => by
    have : k = n := by omega
    subst this
    exact ⟨S1, R, y7, y8, y9, y10, lp_nil, hx, h1, hR, hd⟩
  | w + 1, k, S1, R, y7, y8, y9, y10, hk, hx, h1, hR, hd => by
    have rl := (List.getElem?_eq_some_iff.mp h1).1
    have he' := (List.getElem?_eq_some_iff.mp he).1
    have ho' := (List.getElem?_eq_some_iff.mp ho).1
    have hx1 := hx.app [.lst []]
    have m6 := p.m6
    have hod : ∀ e ∈ E, e.2.1 < od.length := fun e he => by
      rw [o.len]
      exact (p.ed e.1.1 e.1.2 e.2.1 e.2.2 he).2.2.1
    obtain ⟨S2, z9, z10, g1, g2, g3, g4⟩ := rows_l0 (a := k) (y0 := y0) (y2 := some (.int m)) (y4 := y4) (y5 := y5) (y6 := some (.ref r)) hod (List.range m) (S1 ++ [.lst []]) [] y9 y10 (hx1.at_ he) (hx1.at_ ho) (show S0.length ≤ S1.length by omega) hx1 (getElem?_snoc _ _) (by simp; omega) he' ho'
    rw [List.nil_append] at g3
    have e1 : ((List.range m).map fun s => renE od (lk E k s)) = rowOf E m od k := rfl
    rw [e1] at g3
    have tl := tuple_lst g3
    have g5 : S2[r]? = some (.lst (R.map orowD)) := by
      rw [g4 r (by omega), List.getElem?_append_left rl]
      exact h1
    have ix := ixL (k := od.getD k 0) (g2.at_ ho) (i := k) (o.at_ (by omega))
    have kl := o.ltn (show k < n by omega)
    have st := setI (d := rowD (rowOf E m od k)) g5 (i := od.getD k 0) (by rw [List.length_map, hR]; exact kl)
    have e2 : (R.map orowD).set (od.getD k 0) (rowD (rowOf E m od k)) = (R.set (od.getD k 0) (some (rowOf E m od k))).map orowD := by
      rw [List.map_set]; rfl
    rw [e2] at st
    obtain ⟨S3, R', w7, w8, w9, w10, q1, q2, q3, q4, q5⟩ := rows_l1 p o hr he ho w (k + 1) (S2.set r (.lst ((R.set (od.getD k 0) (some (rowOf E m od k))).map orowD))) (R.set (od.getD k 0) (some (rowOf E m od k))) (some (iD k)) (some (.ref S1.length)) z9 z10 (by omega) (g2.put _ hr) (List.getElem?_set_self (List.getElem?_eq_some_iff.mp g5).1) (by rw [List.length_set]; exact hR) (fun a ha => by
      by_cases q : a = k
      · subst q
        rw [List.getElem?_set_self (by rw [hR]; exact kl)]
      · rw [List.getElem?_set_ne (fun z => q (o.inj (show k < n by omega) (show a < n by omega) z).symm)]
        exact hd a (by omega))
    refine ⟨S3, R', w7, w8, w9, w10, ?_, q2, q3, q4, q5⟩
    rw [List.range'_succ, List.map_cons, lp_cons]
    have r1 := range1_nat (mm := eV 2) (s := [y0, some (.ref op), some (.int m), some (.ref ed), y4, y5, some (.ref r), some (iD k), some (.ref S1.length), y9, y10]) (S := S1 ++ [.lst []]) (S1 := S1 ++ [.lst []]) (n := m) rfl (by omega)
    have step : forB (gNm 7) b__law_rows_l1 (iD k) [y0, some (.ref op), some (.int m), some (.ref ed), y4, y5, some (.ref r), y7, y8, y9, y10] S1 = .ok (.nx [y0, some (.ref op), some (.int m), some (.ref ed), y4, y5, some (.ref r), some (iD k), some (.ref S1.length), z9, z10]) (S2.set r (.lst ((R.set (od.getD k 0) (some (rowOf E m od k))).map orowD))) := by
      have st' : setD (.ref r) (.int ((od.getD k 0 : Nat) : Int)) (.tup ((rowOf E m od k).map entD)) S2 = _ := st
      unfold forB b__law_rows_l1
      repeat first | simp only [r1, g1, tl, gSb, ix, st'] | walk_at "ev"
    rw [step, bind_ok]
    exact q1
theorem law_rows_ok {op : Nat} (pa : PlanAt S pl ed kr ho m E kn hm) (hop : S[op]? = some (iL od)) (p : PlanOk m n E kn hm) (o : OrdOk n od) : ∃ rs, f__law_rows [.ref pl, .ref op] S = .ok (.d (rowsD rs)) S ∧ RowsOf m n E od rs := by
  have n8 := p.n8
  have kl := p.kl
  obtain ⟨T, hT⟩ : ∃ T, T = S ++ [O.lst [.non]] ++ [O.lst (List.replicate n D.non)] := ⟨_, rfl⟩
  have tl1 : (S ++ [O.lst [D.non]]).length = S.length + 1 := by simp
  have hx : Ex S T := by rw [hT]; exact ((Ex.refl S).app _).app _
  have t1 : T[S.length + 1]? = some (.lst ((List.replicate n (none : Option (List Ent))).map orowD)) := by
    rw [hT, ← tl1, getElem?_snoc, List.map_replicate]
    rfl
  obtain ⟨S2, R, z7, z8, z9, z10, q1, q2, q3, q4, q5⟩ := rows_l1 (y0 := some (.ref pl)) (y4 := some (.ref kr)) (y5 := some (.ref ho)) (r := S.length + 1) p o (by omega) pa.ed hop n 0 T (List.replicate n none) none none none none (by omega) hx t1 (by simp) (fun a ha => by omega)
  obtain ⟨rs, hrs⟩ : ∃ rs : List (List Ent), R = rs.map some := by
    refine ⟨R.map fun x => x.getD [], ?_⟩
    rw [List.map_map]
    apply List.ext_getElem?
    intro i
    rw [List.getElem?_map]
    by_cases hi : i < n
    · obtain ⟨a, ha, rfl⟩ := o.onto hi
      rw [q5 a ha]
      rfl
    · rw [List.getElem?_eq_none (by omega)]
      rfl
  have hR : R.map orowD = rs.map rowD := by
    rw [hrs, List.map_map]
    rfl
  refine ⟨rs, ?_, by
    have := congrArg List.length hrs
    rw [List.length_map] at this
    omega, fun a ha => by
    have := q5 a ha
    rw [hrs, List.getElem?_map] at this
    obtain ⟨x, h1, h2⟩ := Option.map_eq_some_iff.mp this
    cases h2
    exact h1⟩
  have gc := q2.gc (v := .d (rowsD rs)) (cl_rowsD _ rs)
  rw [hR] at q3
  have tl := tuple_lst q3
  have sq := seqD_lst pa.pl
  have ln : ∀ {S' : Sto}, Ex S S' → bLen (.d (.ref kr)) S' = .ok (.d (.int (n : Nat))) S' := fun h => by
    have := len_lst (h.at_ pa.kn)
    rw [List.length_map, kl] at this
    exact this
  have ln1 := ln ((Ex.refl S).app [O.lst [D.non]])
  have ln2 := ln hx
  have mu := mul_non (n := n) (getElem?_snoc S (O.lst [D.non])) (by omega)
  have r1' : iRange1 (eBi1 bLen (eV 4)) [some (.ref pl), some (.ref op), some (.int m), some (.ref ed), some (.ref kr), some (.ref ho), some (.ref (S.length + 1)), none, none, none, none] T = .ok ⟨(List.range n).map iD, fun _ => True⟩ T := range1_nat ln2 (by omega)
  rw [List.range_eq_range'] at r1'
  have gc' : gcR S (.d (.tup (rs.map rowD))) S2 = .ok (.d (.tup (rs.map rowD))) S := gc
  unfold f__law_rows b__law_rows runF
  repeat first | simp only [gTp, gsCons, gsNil, sq, ln1, mu, tl1, ← hT, r1', q1, tl, gc'] | walk_at "ev"
  rfl
end

end K0
namespace K0
open PySem L2 PyProof.Rows Ev
local macro_rules | `(tactic| walk_at "ev") => `(tactic| simp only [sFor_eq, sSeq, sRet, sRetN, sIf, sAsg, sExpr, sNext, sPar, sPar3, sCont, sBreak, sNever, eAndM, eOrM, eNotM, eIf, eChain, eOp, eUn, eC, eV, eCall, eIsi, eIsiT, kitAnyB, eTup, eLst, eBi1, aNil, aCons, tVal, tTru, tNotM, tAndM, tOrM, asB, truB, blR, gNm, iAny, bind_ok, bind_no, force_d, force_tl, force_no, gcR_same, walk_tup, walk_tl, walk_str,
  kit_ii, kit_ib, kit_is, kit_it, kit_il, kit_ss, kit_si, kit_sb, kit_st, kit_sl, kit_tt, kit_ti, kit_tb, kit_ts, kit_tl, kit_ll, kit_li, kit_lb, kit_ls, kit_lt, kit_bb, kit_bi, kit_ni, kit_nb, kit_ns, kit_nt, kit_nl, ty_non, ty_bl, ty_int, ty_str, ty_tup,
  leD_int, geD_int, ltD_int, gtD_int, addD_int, subD_int, isD_non, isNotD_non, isD_bl, non_non, non_bl, non_int, non_str, non_tup, non_ref, eqD_int, neD_int, eqD_bl, ixd_tup, len_tup, len_tl, tuple_tl, bg0, bg1, bg2, bg3, bg4, bg5, at0, at1, at2, at3, optR_some,
  List.map_cons, List.map_nil, List.replicate, List.append_nil, List.nil_append, List.cons_append, List.length_cons, List.length_nil, Nat.reduceAdd, Nat.reduceSub, Nat.reduceEqDiff, Nat.reduceLeDiff, if_true, if_false, reduceIte, List.getElem?_cons_zero, List.getElem?_cons_succ, List.set_cons_zero, List.set_cons_succ, Option.bind, Bool.not_true, Bool.not_false, Bool.false_eq_true, beq_self_eq_true, Bool.and_true, Bool.and_false, Bool.true_and, Bool.false_and, Bool.or_true, Bool.or_false, Bool.true_or, Bool.false_or, cst0, cst1, cst2, cst3, cst4, cst5, cst6, Int.reduceLE, Int.reduceLT, Int.reduceBEq, decide_true, decide_false])
/-! behind a text; items of events; events of items -/
section
variable {S S0 S1 S2 : Sto} {pl ed kr ho m n : Nat} {E : List Edg} {kn : List (Option Nat)} {hm : List (List Nat)} {od : List Nat}
def bhD (E : List Edg) (l : List Nat) : D := match pw E 0 l with
  | some p => .tup [iD p.1, evsD p.2]
  | none => iD (sp E 0 l)
theorem ix_tx {l : List Nat} {k s : Nat} (h : l[k]? = some s) (hl : l.length ≤ 1000) {S : Sto} : ixD (.str (tx l)) (.int (k : Int)) S = .ok (.d (.str (tx [s]))) S := by
  have e : (tx l).cps.toList = l.map (97 + ·) := by
    show ((l.map (97 + ·)).toArray).toList = _
    simp
  unfold ixD
  simp only
  rw [if_pos (by rw [tx_len]; exact Nat.le_trans hl (by decide)), e, at_nat, List.getElem?_map, h]
  rfl
theorem lenT {l : List Nat} (hl : l.length ≤ 1000) {S : Sto} : bLen (.d (.str (tx l))) S = .ok (.d (.int (l.length : Nat))) S := by
  rw [len_str (by rw [tx_len]; exact Nat.le_trans hl (by decide)), tx_len]
theorem behind_loop (pa : PlanAt S pl ed kr ho m E kn hm) (hE : ∀ e ∈ E, e.2.2.length ≤ 2) {l : List Nat} (hl : l.length ≤ 400) (hs : ∀ s ∈ l, s < 6) : ∀ (r pre : List Nat) (a : Nat) (acc : List Evt) (y4 y5 : Option D), l = pre ++ r → acc.length + 2 * r.length ≤ 2000 →
    (∀ a' es, pw E a r = some (a', es) → ∃ z4 z5, loopF (fun _ => True) (forB (gNm 4) b__law_behind_l0) ((List.range' pre.length r.length).map iD) [some (.ref pl), some (.str (tx l)), some (iD a), some (evsD acc), y4, y5] S = .ok (.nx [some (.ref pl), some (.str (tx l)), some (iD a'), some (evsD (acc ++ es)), z4, z5]) S) ∧
    (pw E a r = none → loopF (fun _ => True) (forB (gNm 4) b__law_behind_l0) ((List.range' pre.length r.length).map iD) [some (.ref pl), some (.str (tx l)), some (iD a), some (evsD acc), y4, y5] S = .ok (.ret (.d (iD (pre.length + sp E a r)))) S)
  | [], pre, a, acc, y4, y5, hp, hb => by
    refine ⟨fun a' es h => ?_, fun h => by cases h⟩
    cases h
    exact ⟨y4, y5, by rw [List.append_nil]; exact lp_nil⟩
  | s :: r, pre, a, acc, y4, y5, hp, hb => by
    rw [List.length_cons] at hb
    have hk : l[pre.length]? = some s := by rw [hp]; simp
    have hs6 : s < 6 := hs s (by rw [hp]; simp)
    have ix := ix_tx hk (by omega) (S := S)
    have i1 : ixD (.ref pl) (.int 1) S = .ok (.d (.ref ed)) S := ixB pa.pl 1 rfl
    have ty := tyD_dct pa.ed
    have tys : tyD (.str "abcdef") S = some "str" := rfl
    have ia := index_alpha (S := S) hs6
    have mg := mget_ed (a := a) (s := s) pa.ed
    rw [List.length_cons, List.range'_succ, List.map_cons, lp_cons]
    cases hlk : lk E a s with
    | none =>
      rw [hlk] at mg
      have step : forB (gNm 4) b__law_behind_l0 (iD pre.length) [some (.ref pl), some (.str (tx l)), some (iD a), some (evsD acc), y4, y5] S = .ok (.ret (.d (iD pre.length))) S := by
        simp only [entD] at mg
        unfold forB b__law_behind_l0
        repeat first | simp only [eMeth, i1, ty, ix, tys, ia, mg] | walk_at "ev"
      rw [step, bind_ok, pw_cons, sp_cons, hlk]
      exact ⟨fun a' es h => (nomatch h), fun _ => rfl⟩
    | some p =>
      obtain ⟨a1, es1⟩ := p
      rw [hlk] at mg
      have h2 := hE _ (lk_mem hlk)
      simp only at h2
      have ad : addD (evsD acc) (evsD es1) S = .ok (.d (evsD (acc ++ es1))) S := by
        unfold evsD
        rw [addD_tup (by rw [List.length_map, List.length_map]; exact Nat.le_trans (show acc.length + es1.length ≤ 2000 by omega) (by decide)), List.map_append]
      have step : forB (gNm 4) b__law_behind_l0 (iD pre.length) [some (.ref pl), some (.str (tx l)), some (iD a), some (evsD acc), y4, y5] S = .ok (.nx [some (.ref pl), some (.str (tx l)), some (iD a1), some (evsD (acc ++ es1)), some (iD pre.length), some (.tup [iD a1, evsD es1])]) S := by
        simp only [entD] at mg
        unfold forB b__law_behind_l0
        repeat first | simp only [eMeth, i1, ty, ix, tys, ia, mg, ad] | walk_at "ev"
      rw [step, bind_ok, pw_cons, sp_cons, hlk]
      obtain ⟨g1, g2⟩ := behind_loop pa hE hl hs r (pre ++ [s]) a1 (acc ++ es1) (some (iD pre.length)) (some (.tup [iD a1, evsD es1])) (by rw [hp]; simp) (by rw [List.length_append]; omega)
      rw [List.length_append, List.length_singleton] at g1 g2
      refine ⟨fun a' es h => ?_, fun h => ?_⟩
      · obtain ⟨q, hq, e⟩ := Option.map_eq_some_iff.mp h
        cases e
        obtain ⟨z4, z5, e2⟩ := g1 q.1 q.2 hq
        rw [List.append_assoc] at e2
        exact ⟨z4, z5, e2⟩
      · have := g2 (Option.map_eq_none_iff.mp h)
        rw [show pre.length + 1 + sp E a1 r = pre.length + (sp E a1 r + 1) by omega] at this
        exact this
theorem law_behind_ok (pa : PlanAt S pl ed kr ho m E kn hm) (hE : ∀ e ∈ E, e.2.2.length ≤ 2) {l : List Nat} (hl : l.length ≤ 400) (hs : ∀ s ∈ l, s < 6) : f__law_behind [.ref pl, .str (tx l)] S = .ok (.d (bhD E l)) S := by
  obtain ⟨g1, g2⟩ := behind_loop pa hE hl hs l [] 0 [] none none rfl (by simp; omega)
  have r1 : iRange1 (eBi1 bLen (eV 1)) [some (.ref pl), some (.str (tx l)), some (.int 0), some (.tup []), none, none] S = .ok ⟨(List.range l.length).map iD, fun _ => True⟩ S := range1_nat (lenT (by omega)) (by omega)
  rw [List.range_eq_range'] at r1
  unfold bhD
  cases h : pw E 0 l with
  | none =>
    have e : loopF (fun _ => True) (forB (gNm 4) b__law_behind_l0) ((List.range' 0 l.length).map iD) [some (.ref pl), some (.str (tx l)), some (.int 0), some (.tup []), none, none] S = .ok (.ret (.d (iD (0 + sp E 0 l)))) S := g2 h
    rw [Nat.zero_add] at e
    unfold f__law_behind b__law_behind runF
    repeat first | simp only [gTp, gsCons, gsNil, seqD_tup, r1, e] | walk_at "ev"
  | some p =>
    obtain ⟨z4, z5, e⟩ := g1 p.1 p.2 h
    have e' : loopF (fun _ => True) (forB (gNm 4) b__law_behind_l0) ((List.range' 0 l.length).map iD) [some (.ref pl), some (.str (tx l)), some (.int 0), some (.tup []), none, none] S = .ok (.nx [some (.ref pl), some (.str (tx l)), some (iD p.1), some (evsD p.2), z4, z5]) S := e
    unfold f__law_behind b__law_behind runF
    repeat first | simp only [gTp, gsCons, gsNil, seqD_tup, r1, e'] | walk_at "ev"
/-! items -/
variable {y0 y1 y2 y3 : Option D}
theorem litems_loop {q : Nat} (hq : S0.length ≤ q) : ∀ (es : List Evt) (S1 : Sto) (st : ImS) (p : Nat) (y3 : Option D), Ex S0 S1 → S0.length ≤ p → p ≠ q → S1[q]? = some (.lst (st.1.map Itm.D)) → S1[p]? = some (.lst [iD st.2.1, .str (tx st.2.2)]) → st.1.length + es.length < 100000 → st.2.2.length + es.length < 100000 →
    ∃ S2 p' z3, loopF (fun _ => True) (forB (gNm 3) b__law_items_l0) (es.map Evt.D) [y0, some (.ref q), some (.ref p), y3] S1 = .ok (.nx [y0, some (.ref q), some (.ref p'), z3]) S2 ∧ Ex S0 S2 ∧ S2[q]? = some (.lst ((es.foldl imStep st).1.map Itm.D))
  | [], S1, st, p, y3, hx, hp, hpq, h1, h2, hl, hl2 => ⟨S1, p, y3, lp_nil, hx, h1⟩
  | e :: es, S1, (f, k, s), p, y3, hx, hp, hpq, h1, h2, hl, hl2 => by
    rw [List.length_cons] at hl hl2
    have ty := tyD_lst h1
    have ql := (List.getElem?_eq_some_iff.mp h1).1
    have plen := (List.getElem?_eq_some_iff.mp h2).1
    have ap : ∀ d : D, mAppend "list" (.ref q) [d] S1 = .ok (.d .non) (S1.set q (.lst (f.map Itm.D ++ [d]))) := fun d => append_D h1 (Nat.lt_trans (show (f.map Itm.D).length < 100000 by rw [List.length_map]; simp only at hl; omega) (by decide))
    have i0 : ixD (.ref p) (.int 0) S1 = .ok (.d (iD k)) S1 := ixB h2 0 rfl
    have i1 : ixD (.ref p) (.int 1) S1 = .ok (.d (.str (tx s))) S1 := ixB h2 1 rfl
    simp only at hl hl2
    rw [List.map_cons, lp_cons, List.foldl_cons]
    cases e with
    | mark c =>
      obtain ⟨S2, p', z3, g1, g2, g3⟩ := litems_loop hq es (S1.set q (.lst ((f ++ [Itm.mark c]).map Itm.D))) (f ++ [.mark c], k, s) p (some (Evt.mark c).D) (hx.put _ hq) hp hpq (List.getElem?_set_self ql) (by rw [List.getElem?_set_ne (Ne.symm hpq)]; exact h2) (by simp; omega) (by simp; omega)
      refine ⟨S2, p', z3, ?_, g2, g3⟩
      have step : forB (gNm 3) b__law_items_l0 (Evt.mark c).D [y0, some (.ref q), some (.ref p), y3] S1 = .ok (.nx [y0, some (.ref q), some (.ref p), some (Evt.mark c).D]) (S1.set q (.lst ((f ++ [Itm.mark c]).map Itm.D))) := by
        rw [List.map_append]
        simp only [List.map_cons, List.map_nil, Itm.D]
        unfold forB b__law_items_l0
        simp only [Evt.D]
        repeat first | walk_at "ev" | simp only [e_mm, eMeth, ty, ap]
      rw [step, bind_ok]
      exact g1
    | opn j =>
      obtain ⟨S2, p', z3, g1, g2, g3⟩ := litems_loop hq es (S1 ++ [.lst [iD j, .str (tx [])]]) (f, j, []) S1.length (some (Evt.opn j).D) (hx.app _) hx.len (by omega) (by rw [List.getElem?_append_left ql]; exact h1) (getElem?_snoc _ _) (by simp; omega) (by simp; omega)
      refine ⟨S2, p', z3, ?_, g2, g3⟩
      have step : forB (gNm 3) b__law_items_l0 (Evt.opn j).D [y0, some (.ref q), some (.ref p), y3] S1 = .ok (.nx [y0, some (.ref q), some (.ref S1.length), some (Evt.opn j).D]) (S1 ++ [.lst [iD j, .str (tx [])]]) := by
        unfold forB b__law_items_l0
        simp only [Evt.D]
        repeat first | walk_at "ev" | simp only [e_om, e_oo, tx_nil]
      rw [step, bind_ok]
      exact g1
    | say c =>
      have ad : addD (.str (tx s)) (.str (tx [c])) S1 = .ok (.d (.str (tx (s ++ [c])))) S1 := by
        rw [addD_str (by rw [tx_len, tx_len]; show s.length + 1 ≤ 10000000; omega), tx_app]
      obtain ⟨S2, p', z3, g1, g2, g3⟩ := litems_loop hq es (S1 ++ [.lst [iD k, .str (tx (s ++ [c]))]]) (f, k, s ++ [c]) S1.length (some (Evt.say c).D) (hx.app _) hx.len (by omega) (by rw [List.getElem?_append_left ql]; exact h1) (getElem?_snoc _ _) (by simp; omega) (by simp; omega)
      refine ⟨S2, p', z3, ?_, g2, g3⟩
      have step : forB (gNm 3) b__law_items_l0 (Evt.say c).D [y0, some (.ref q), some (.ref p), y3] S1 = .ok (.nx [y0, some (.ref q), some (.ref S1.length), some (Evt.say c).D]) (S1 ++ [.lst [iD k, .str (tx (s ++ [c]))]]) := by
        unfold forB b__law_items_l0
        simp only [Evt.D]
        repeat first | walk_at "ev" | simp only [e_sm, e_so, e_ss, i0, i1, ad]
      rw [step, bind_ok]
      exact g1
    | shut =>
      obtain ⟨S2, p', z3, g1, g2, g3⟩ := litems_loop hq es (S1.set q (.lst ((f ++ [Itm.fld k s]).map Itm.D))) (f ++ [.fld k s], k, s) p (some Evt.shut.D) (hx.put _ hq) hp hpq (List.getElem?_set_self ql) (by rw [List.getElem?_set_ne (Ne.symm hpq)]; exact h2) (by simp; omega) (by simp; omega)
      refine ⟨S2, p', z3, ?_, g2, g3⟩
      have step : forB (gNm 3) b__law_items_l0 Evt.shut.D [y0, some (.ref q), some (.ref p), y3] S1 = .ok (.nx [y0, some (.ref q), some (.ref p), some Evt.shut.D]) (S1.set q (.lst ((f ++ [Itm.fld k s]).map Itm.D))) := by
        rw [List.map_append]
        simp only [List.map_cons, List.map_nil, Itm.D, fieldD, modeD]
        unfold forB b__law_items_l0
        simp only [Evt.D]
        repeat first | walk_at "ev" | simp only [e_hm, e_ho, e_hs, i0, i1, eMeth, ty, ap]
      rw [step, bind_ok]
      exact g1
def itmsD (l : List Itm) : D := .tup (l.map Itm.D)
theorem cl_itms (n : Nat) (l : List Itm) : clD n (itmsD l) = true := by
  unfold itmsD clD
  induction l with
  | nil => rfl
  | cons a l ih =>
    rw [List.map_cons]
    simp only [clDs, ih, Bool.and_true]
    cases a <;> simp [Itm.D, Evt.D, fieldD, modeD, clD, clDs]
theorem law_items_ok {es : List Evt} (hl : es.length < 90000) (S : Sto) : f__law_items [evsD es] S = .ok (.d (itmsD (itm es))) S := by
  obtain ⟨T, hT⟩ : ∃ T, T = S ++ [O.lst []] ++ [O.lst [.int 0, .str ""]] := ⟨_, rfl⟩
  have tl1 : (S ++ [O.lst []]).length = S.length + 1 := by simp
  have hx : Ex S T := by rw [hT]; exact ((Ex.refl S).app _).app _
  have t1 : T[S.length]? = some (.lst []) := by rw [hT, List.getElem?_append_left (by omega), getElem?_snoc]
  have t2 : T[S.length + 1]? = some (.lst [iD 0, .str (tx [])]) := by
    rw [hT, ← tl1, getElem?_snoc, ← tx_nil]
    rfl
  obtain ⟨S2, p', z3, g1, g2, g3⟩ := litems_loop (y0 := some (.tup (es.map Evt.D))) (Nat.le_refl S.length) es T ([], 0, []) (S.length + 1) none hx (by omega) (by omega) t1 t2 (by simp; omega) (by simp; omega)
  have tl := tuple_lst g3
  have gc : gcR S (.d (.tup ((es.foldl imStep ([], 0, [])).1.map Itm.D))) S2 = .ok (.d (.tup ((es.foldl imStep ([], 0, [])).1.map Itm.D))) S := g2.gc (cl_itms S.length (itm es))
  unfold f__law_items b__law_items runF evsD
  repeat first | simp only [tl1, ← hT, g1, tl, gc] | walk_at "ev"
  rfl
end

end K0
namespace K0
open PySem L2 PyProof.Rows Ev
local macro_rules | `(tactic| walk_at "ev") => `(tactic| simp only [sFor_eq, sSeq, sRet, sRetN, sIf, sAsg, sExpr, sNext, sPar, sPar3, sCont, sBreak, sNever, eAndM, eOrM, eNotM, eIf, eChain, eOp, eUn, eC, eV, eCall, eIsi, eIsiT, kitAnyB, eTup, eLst, eBi1, aNil, aCons, tVal, tTru, tNotM, tAndM, tOrM, asB, truB, blR, gNm, iAny, bind_ok, bind_no, force_d, force_tl, force_no, gcR_same, walk_tup, walk_tl, walk_str,
  kit_ii, kit_ib, kit_is, kit_it, kit_il, kit_ss, kit_si, kit_sb, kit_st, kit_sl, kit_tt, kit_ti, kit_tb, kit_ts, kit_tl, kit_ll, kit_li, kit_lb, kit_ls, kit_lt, kit_bb, kit_bi, kit_ni, kit_nb, kit_ns, kit_nt, kit_nl, ty_non, ty_bl, ty_int, ty_str, ty_tup,
  leD_int, geD_int, ltD_int, gtD_int, addD_int, subD_int, isD_non, isNotD_non, isD_bl, non_non, non_bl, non_int, non_str, non_tup, non_ref, eqD_int, neD_int, eqD_bl, ixd_tup, len_tup, len_tl, tuple_tl, bg0, bg1, bg2, bg3, bg4, bg5, at0, at1, at2, at3, optR_some,
  List.map_cons, List.map_nil, List.replicate, List.append_nil, List.nil_append, List.cons_append, List.length_cons, List.length_nil, Nat.reduceAdd, Nat.reduceSub, Nat.reduceEqDiff, Nat.reduceLeDiff, if_true, if_false, reduceIte, List.getElem?_cons_zero, List.getElem?_cons_succ, List.set_cons_zero, List.set_cons_succ, Option.bind, Bool.not_true, Bool.not_false, Bool.false_eq_true, beq_self_eq_true, Bool.and_true, Bool.and_false, Bool.true_and, Bool.false_and, Bool.or_true, Bool.or_false, Bool.true_or, Bool.false_or, cst0, cst1, cst2, cst3, cst4, cst5, cst6, Int.reduceLE, Int.reduceLT, Int.reduceBEq, decide_true, decide_false])
/-! events of items; the same all through -/
section
variable {S S0 S1 S2 : Sto} {y0 y1 y2 y3 : Option D}
theorem e_mf {S : Sto} : eqD (.str "mark") (.str "field") S = .ok (.d (.bl false)) S := str_eq (by decide +kernel) (by decide +kernel)
theorem e_ff {S : Sto} : eqD (.str "field") (.str "field") S = .ok (.d (.bl true)) S := str_eq (by decide +kernel) (by decide +kernel)
theorem flat_c0 {k : Nat} {s : List Nat} (hs : s.length ≤ 100000) : c__law_flat_0 [y0, y1, some (fieldD (some k) s), y3] S = .ok (.tl (s.map fun c => (Evt.say c).D)) S := by
  unfold c__law_flat_0
  rw [eComp_eq]
  have w : iAny (eOp ixD (eV 2) (eC (.int 2))) [y0, y1, some (fieldD (some k) s), y3] S = .ok ⟨s.map fun c => D.str (tx [c]), fun _ => True⟩ S := by
    simp only [fieldD]
    repeat first | walk_at "ev"
    rw [tx_sigs]
  rw [w, bind_ok]
  have lc := lc_selM (chk := fun _ => True) (g := gNm 3) (tt := tYesM) (te := eTup (aCons (eC (.str "say")) (aCons (eV 3) aNil))) (s0 := wipeE [y0, y1, some (fieldD (some k) s), y3] [3]) (S := S) (fun c : Nat => D.str (tx [c])) True.intro (fun _ => true) (fun c => (Evt.say c).D) s [] (by simp; exact Nat.le_trans hs (by decide)) (fun c _ => ⟨_, rfl, rfl, fun _ => by
    simp only [wipeE]
    repeat first | walk_at "ev"
    rfl⟩)
  rw [lc, bind_ok, List.nil_append, show s.filter (fun _ => true) = s from List.filter_eq_self.mpr fun _ _ => rfl]
theorem add_LL {p q : Nat} {xs ys : List D} {S : Sto} (h : S[p]? = some (.lst xs)) (h2 : S[q]? = some (.lst ys)) (hl : xs.length + ys.length ≤ BIG) : addD (.ref p) (.ref q) S = .ok (.tl (xs ++ ys)) S := by
  unfold addD
  simp only [h, h2]
  rw [if_pos hl]
theorem flat_loop {q : Nat} (hq : S0.length ≤ q) : ∀ (l : List Itm) (S1 : Sto) (acc : List Evt) (y2 : Option D), Ex S0 S1 → S1[q]? = some (.lst (acc.map Evt.D)) → acc.length + (l.flatMap flatI).length ≤ 90000 →
    ∃ S2 z2, loopF (fun _ => True) (forB (gNm 2) b__law_flat_l0) (l.map Itm.D) [y0, some (.ref q), y2, y3] S1 = .ok (.nx [y0, some (.ref q), z2, y3]) S2 ∧ Ex S0 S2 ∧ S2[q]? = some (.lst ((acc ++ l.flatMap flatI).map Evt.D))
  | [], S1, acc, y2, hx, h1, hl => ⟨S1, y2, lp_nil, hx, by rw [List.flatMap_nil, List.append_nil]; exact h1⟩
  | i :: l, S1, acc, y2, hx, h1, hl => by
    rw [List.flatMap_cons, List.length_append] at hl
    have ql := (List.getElem?_eq_some_iff.mp h1).1
    have ty := tyD_lst h1
    have al : (acc.map Evt.D).length ≤ 90000 := by rw [List.length_map]; omega
    have ap : ∀ d : D, mAppend "list" (.ref q) [d] S1 = .ok (.d .non) (S1.set q (.lst (acc.map Evt.D ++ [d]))) := fun d => append_D h1 (Nat.lt_of_le_of_lt al (by decide))
    rw [List.map_cons, lp_cons]
    cases i with
    | mark c =>
      obtain ⟨S2, z2, g1, g2, g3⟩ := flat_loop hq l (S1.set q (.lst ((acc ++ [Evt.mark c]).map Evt.D))) (acc ++ [.mark c]) (some (Evt.mark c).D) (hx.put _ hq) (List.getElem?_set_self ql) (by simp [flatI] at hl ⊢; omega)
      refine ⟨S2, z2, ?_, g2, by rw [g3, List.append_assoc]; rfl⟩
      have step : forB (gNm 2) b__law_flat_l0 (Evt.mark c).D [y0, some (.ref q), y2, y3] S1 = .ok (.nx [y0, some (.ref q), some (Evt.mark c).D, y3]) (S1.set q (.lst ((acc ++ [Evt.mark c]).map Evt.D))) := by
        rw [List.map_append]
        simp only [List.map_cons, List.map_nil]
        unfold forB b__law_flat_l0
        simp only [Evt.D]
        repeat first | walk_at "ev" | simp only [e_mf, eMeth, ty, ap]
      show R.bind (forB (gNm 2) b__law_flat_l0 (Evt.mark c).D _ _) _ = _
      rw [step, bind_ok]
      exact g1
    | fld k s =>
      have fl : (flatI (.fld k s)).length = s.length + 2 := by simp [flatI]
      rw [fl] at hl
      have h2 : (S1.set q (.lst (acc.map Evt.D ++ [(Evt.opn k).D])))[q]? = some (.lst (acc.map Evt.D ++ [(Evt.opn k).D])) := List.getElem?_set_self ql
      obtain ⟨T, hT⟩ : ∃ T, T = S1.set q (.lst (acc.map Evt.D ++ [(Evt.opn k).D])) := ⟨_, rfl⟩
      rw [← hT] at h2
      have hxT : Ex S0 T := by rw [hT]; exact hx.put _ hq
      have Tl := (List.getElem?_eq_some_iff.mp h2).1
      have c0 := flat_c0 (y0 := y0) (y1 := some (.ref q)) (y3 := y3) (S := T) (k := k) (s := s) (by omega)
      have t1 : (T ++ [O.lst (s.map fun c => (Evt.say c).D)] ++ [O.lst [Evt.shut.D]])[T.length]? = some (.lst (s.map fun c => (Evt.say c).D)) := by
        rw [List.getElem?_append_left (by simp), getElem?_snoc]
      have t2 : (T ++ [O.lst (s.map fun c => (Evt.say c).D)] ++ [O.lst [Evt.shut.D]])[(T ++ [O.lst (s.map fun c => (Evt.say c).D)]).length]? = some (.lst [Evt.shut.D]) := getElem?_snoc _ _
      have ad := add_LL t1 t2 (by simp; exact Nat.le_trans (show s.length + 1 ≤ 90001 by omega) (by decide))
      obtain ⟨U, hU⟩ : ∃ U, U = T ++ [O.lst (s.map fun c => (Evt.say c).D)] ++ [O.lst [Evt.shut.D]] := ⟨_, rfl⟩
      rw [← hU] at ad
      have hxU : Ex S0 U := by rw [hU]; exact (hxT.app _).app _
      have u1 : (U ++ [O.lst ((s.map fun c => (Evt.say c).D) ++ [Evt.shut.D])])[q]? = some (.lst (acc.map Evt.D ++ [(Evt.opn k).D])) := by
        rw [List.getElem?_append_left (by rw [hU]; simp; omega), hU, List.getElem?_append_left (by simp; omega), List.getElem?_append_left Tl]
        exact h2
      have ex := extend_L u1 (getElem?_snoc U _) (by simp; exact Nat.le_trans (show acc.length + 1 + (s.length + 1) ≤ 90010 by omega) (by decide))
      have e1 : acc.map Evt.D ++ [(Evt.opn k).D] ++ ((s.map fun c => (Evt.say c).D) ++ [Evt.shut.D]) = (acc ++ flatI (.fld k s)).map Evt.D := by
        simp [flatI]
      rw [e1] at ex
      have tyT := tyD_lst h2
      obtain ⟨S2, z2, g1, g2, g3⟩ := flat_loop hq l ((U ++ [O.lst ((s.map fun c => (Evt.say c).D) ++ [Evt.shut.D])]).set q (.lst ((acc ++ flatI (.fld k s)).map Evt.D))) (acc ++ flatI (.fld k s)) (some (fieldD (some k) s)) ((hxU.app _).put _ hq) (List.getElem?_set_self (List.getElem?_eq_some_iff.mp u1).1) (by rw [List.length_append, fl]; omega)
      refine ⟨S2, z2, ?_, g2, by rw [g3, List.append_assoc]; rfl⟩
      have step : forB (gNm 2) b__law_flat_l0 (fieldD (some k) s) [y0, some (.ref q), y2, y3] S1 = .ok (.nx [y0, some (.ref q), some (fieldD (some k) s), y3]) ((U ++ [O.lst ((s.map fun c => (Evt.say c).D) ++ [Evt.shut.D])]).set q (.lst ((acc ++ flatI (.fld k s)).map Evt.D))) := by
        have c0' : c__law_flat_0 [y0, some (.ref q), some (.tup [.str "field", .int k, .str (tx s)]), y3] T = _ := c0
        have ap' : mAppend "list" (.ref q) [.tup [.str "open", .int (k : Int)]] S1 = .ok (.d .non) T := by rw [hT]; exact ap (Evt.opn k).D
        have hU' : U = T ++ [O.lst (s.map fun c => (Evt.say c).D)] ++ [O.lst [D.tup [.str "shut"]]] := hU
        have ex' : mExtend "list" (.ref q) [.ref U.length] (U ++ [O.lst ((s.map fun c => (Evt.say c).D) ++ [D.tup [.str "shut"]])]) = _ := ex
        unfold forB b__law_flat_l0
        simp only [fieldD, modeD, Evt.D] at *
        repeat first | walk_at "ev" | simp only [e_ff, eMeth, ty, tyT, ap', c0', ← hU', ad, ex']
      show R.bind (forB (gNm 2) b__law_flat_l0 (fieldD (some k) s) _ _) _ = _
      rw [step, bind_ok]
      exact g1
theorem law_flat_ok {l : List Itm} (hl : (l.flatMap flatI).length ≤ 80000) (S : Sto) : f__law_flat [itmsD l] S = .ok (.d (evsD (l.flatMap flatI))) S := by
  obtain ⟨S2, z2, g1, g2, g3⟩ := flat_loop (y0 := some (.tup (l.map Itm.D))) (y3 := none) (Nat.le_refl S.length) l (S ++ [.lst []]) [] none ((Ex.refl S).app _) (getElem?_snoc _ _) (by rw [List.length_nil, Nat.zero_add]; exact Nat.le_trans hl (by decide))
  rw [List.nil_append] at g3
  have tl := tuple_lst g3
  have gc : gcR S (.d (.tup ((l.flatMap flatI).map Evt.D))) S2 = .ok (.d (.tup ((l.flatMap flatI).map Evt.D))) S := g2.gc (cl_evsD S.length (l.flatMap flatI))
  unfold f__law_flat b__law_flat runF itmsD
  repeat first | simp only [g1, tl, gc] | walk_at "ev"
  rfl
end

end K0
namespace K0
open PySem L2 PyProof.Rows Ev
local macro_rules | `(tactic| walk_at "ev") => `(tactic| simp only [sFor_eq, sSeq, sRet, sRetN, sIf, sAsg, sExpr, sNext, sPar, sPar3, sCont, sBreak, sNever, eAndM, eOrM, eNotM, eIf, eChain, eOp, eUn, eC, eV, eCall, eIsi, eIsiT, kitAnyB, eTup, eLst, eBi1, aNil, aCons, tVal, tTru, tNotM, tAndM, tOrM, asB, truB, blR, gNm, iAny, bind_ok, bind_no, force_d, force_tl, force_no, gcR_same, walk_tup, walk_tl, walk_str,
  kit_ii, kit_ib, kit_is, kit_it, kit_il, kit_ss, kit_si, kit_sb, kit_st, kit_sl, kit_tt, kit_ti, kit_tb, kit_ts, kit_tl, kit_ll, kit_li, kit_lb, kit_ls, kit_lt, kit_bb, kit_bi, kit_ni, kit_nb, kit_ns, kit_nt, kit_nl, ty_non, ty_bl, ty_int, ty_str, ty_tup,
  leD_int, geD_int, ltD_int, gtD_int, addD_int, subD_int, isD_non, isNotD_non, isD_bl, non_non, non_bl, non_int, non_str, non_tup, non_ref, eqD_int, neD_int, eqD_bl, ixd_tup, len_tup, len_tl, tuple_tl, bg0, bg1, bg2, bg3, bg4, bg5, at0, at1, at2, at3, optR_some,
  List.map_cons, List.map_nil, List.replicate, List.append_nil, List.nil_append, List.cons_append, List.length_cons, List.length_nil, Nat.reduceAdd, Nat.reduceSub, Nat.reduceEqDiff, Nat.reduceLeDiff, if_true, if_false, reduceIte, List.getElem?_cons_zero, List.getElem?_cons_succ, List.set_cons_zero, List.set_cons_succ, Option.bind, Bool.not_true, Bool.not_false, Bool.false_eq_true, beq_self_eq_true, Bool.and_true, Bool.and_false, Bool.true_and, Bool.false_and, Bool.or_true, Bool.or_false, Bool.true_or, Bool.false_or, cst0, cst1, cst2, cst3, cst4, cst5, cst6, Int.reduceLE, Int.reduceLT, Int.reduceBEq, decide_true, decide_false])
/-! the same all through -/
mutual
/-- small enough -/
def smD : D → Bool
  | .str x => decide (x.length ≤ 100000)
  | .tup ds => decide (ds.length ≤ 100000) && smDs ds
  | _ => true
def smDs : List D → Bool
  | [] => true
  | d :: ds => smD d && smDs ds
end
theorem okDs_get : ∀ {ds : List D} {k : Nat} {d : D}, okDs ds = true → ds[k]? = some d → okD d = true
  | [], k, d, _, h => by simp at h
  | a :: ds, 0, d, h, e => by
    unfold okDs at h
    rw [Bool.and_eq_true] at h
    simp at e; subst e; exact h.1
  | a :: ds, k + 1, d, h, e => by
    unfold okDs at h
    rw [Bool.and_eq_true] at h
    exact okDs_get h.2 (by simpa using e)
theorem smDs_get : ∀ {ds : List D} {k : Nat} {d : D}, smDs ds = true → ds[k]? = some d → smD d = true
  | [], k, d, _, h => by simp at h
  | a :: ds, 0, d, h, e => by
    unfold smDs at h
    rw [Bool.and_eq_true] at h
    simp at e; subst e; exact h.1
  | a :: ds, k + 1, d, h, e => by
    unfold smDs at h
    rw [Bool.and_eq_true] at h
    exact smDs_get h.2 (by simpa using e)
theorem dpDs_get : ∀ {ds : List D} {k : Nat} {d : D}, ds[k]? = some d → dpD d ≤ dpDs ds
  | [], k, d, h => by simp at h
  | a :: ds, 0, d, e => by
    simp at e; subst e
    unfold dpDs
    exact Nat.le_max_left _ _
  | a :: ds, k + 1, d, e => by
    have := dpDs_get (ds := ds) (k := k) (by simpa using e)
    unfold dpDs
    exact Nat.le_trans this (Nat.le_max_right _ _)
section
variable {S S0 S1 S2 : Sto} {y0 y1 y2 y3 : Option D} {r : List D → Sto → R XR}
theorem cut_one {z : Str} {k c : Nat} (h : z.cps.toList[k]? = some c) : cutS z (some (k : Int)) (some ((k : Int) + 1)) = ⟨#[c]⟩ := by
  have hk : k < z.cps.toList.length := (List.getElem?_eq_some_iff.mp h).1
  have hz : z.length = z.cps.toList.length := by
    show z.cps.size = _
    simp
  have e1 : HT.sIx z.length 0 (some (k : Int)) = k := by rw [HT.sIx_nat]; omega
  have e2 : HT.sIx z.length z.length (some ((k : Int) + 1)) = k + 1 := by
    have := HT.sIx_nat z.length z.length (k + 1)
    rw [show (((k + 1 : Nat)) : Int) = (k : Int) + 1 from rfl] at this
    rw [this]; omega
  unfold cutS
  rw [e1, e2, show k + 1 - k = 1 by omega]
  congr 1
  rw [List.drop_eq_getElem_cons hk]
  rw [List.getElem?_eq_getElem hk] at h
  have := Option.some.inj h
  rw [this]
  rfl
theorem same_c0 {z : Str} (hz : PyData.strOk z = true) (hl : z.length ≤ 100000) : c__law_same_0 r [some (.str z), some (.str z), y2] S = .ok (.tl []) S := by
  unfold c__law_same_0
  rw [eComp_eq]
  have hB : z.length ≤ BIG := Nat.le_trans hl (by decide)
  have r1 : iRange1 (eBi1 bLen (eV 1)) [some (.str z), some (.str z), y2] S = .ok ⟨(List.range z.length).map iD, fun _ => True⟩ S := range1_nat (len_str hB) (by omega)
  have lc := lc_selM (chk := fun _ => True) (g := gNm 2) (tt := tVal (eOp neD (eSl (eV 0) (some (eV 2)) (some (eOp addD (eV 2) (eC (.int 1))))) (eOp ixD (eV 1) (eV 2)))) (te := eV 2) (s0 := wipeE [some (.str z), some (.str z), y2] [2]) (S := S) iD True.intro (fun _ => false) iD (List.range z.length) [] (by simp; exact hB) (fun k hk => ⟨_, rfl, by
    have hk' := List.mem_range.mp hk
    obtain ⟨c, hc⟩ : ∃ c, z.cps.toList[k]? = some c := ⟨_, List.getElem?_eq_getElem (by rw [show z.cps.toList.length = z.length by show _ = z.cps.size; simp]; exact hk')⟩
    have co : PyData.strOk ⟨#[c]⟩ = true := by
      unfold PyData.strOk at hz ⊢
      rw [Array.all_eq_true_iff_forall_mem] at hz ⊢
      intro x hx
      have : x = c := by simpa using hx
      rw [this]
      exact hz c (by rw [← Array.mem_toList_iff]; exact List.mem_of_getElem? hc)
    have sl : slD (.str z) (some (k : Int)) (some ((k : Int) + 1)) S = .ok (.d (.str ⟨#[c]⟩)) S := by
      unfold slD
      simp only
      rw [if_pos hB, cut_one hc]
    have ix : ixD (.str z) (.int (k : Int)) S = .ok (.d (.str ⟨#[c]⟩)) S := by
      unfold ixD
      simp only
      rw [if_pos hB, at_nat, hc]
      rfl
    have ne : neD (.str ⟨#[c]⟩) (.str ⟨#[c]⟩) S = .ok (.d (.bl false)) S := neD_self (d := .str ⟨#[c]⟩) co (Nat.zero_le _) S
    simp only [wipeE]
    repeat first | simp only [eSl, ePart, sl, ix, ne] | walk_at "ev", fun h => by cases h⟩)
  rw [r1, bind_ok]
  simp only
  rw [lc, bind_ok, show (List.range z.length).filter (fun _ => false) = [] from List.filter_eq_nil_iff.mpr fun _ _ => by decide]
  rfl
theorem nil_nil {S : Sto} : eqD (.ref S.length) (.ref (S ++ [O.lst []]).length) (S ++ [O.lst []] ++ [O.lst []]) = .ok (.d (.bl true)) (S ++ [O.lst []] ++ [O.lst []]) :=
  eqD_nil (ds := []) rfl (Nat.zero_le _) (by rw [List.getElem?_append_left (by simp), getElem?_snoc]) (getElem?_snoc _ _)
/-- the items of two alike sequences -/
theorem same_c1 {ds : List D} {a e : D} (hl : ds.length ≤ 100000) (w : bLen (.d e) S = .ok (.d (.int (ds.length : Nat))) S) (ia : ∀ (k : Nat) (d : D), ds[k]? = some d → ixD a (.int (k : Int)) S = .ok (.d d) S) (ie : ∀ (k : Nat) (d : D), ds[k]? = some d → ixD e (.int (k : Int)) S = .ok (.d d) S)
    (h : ∀ (k : Nat) (d : D), ds[k]? = some d → r [d, d] S = .ok (.d (.bl true)) S) : c__law_same_1 r [some a, some e, y2] S = .ok (.tl []) S := by
  unfold c__law_same_1
  rw [eComp_eq]
  have r1 : iRange1 (eBi1 bLen (eV 1)) [some a, some e, y2] S = .ok ⟨(List.range ds.length).map iD, fun _ => True⟩ S := range1_nat w (by omega)
  have lc := lc_selM (chk := fun _ => True) (g := gNm 2) (tt := tNotM (tTru (eCall r (aCons (eOp ixD (eV 0) (eV 2)) (aCons (eOp ixD (eV 1) (eV 2)) aNil))))) (te := eV 2) (s0 := wipeE [some a, some e, y2] [2]) (S := S) iD True.intro (fun _ => false) iD (List.range ds.length) [] (by simp; exact Nat.le_trans hl (by decide)) (fun k hk => ⟨_, rfl, by
    obtain ⟨d, hd⟩ : ∃ d, ds[k]? = some d := ⟨_, List.getElem?_eq_getElem (List.mem_range.mp hk)⟩
    have i1 := ia k d hd
    have i2 := ie k d hd
    have hh := h k d hd
    simp only [wipeE]
    repeat first | simp only [i1, i2, hh] | walk_at "ev", fun h => by cases h⟩)
  rw [r1, bind_ok]
  simp only
  rw [lc, bind_ok, show (List.range ds.length).filter (fun _ => false) = [] from List.filter_eq_nil_iff.mpr fun _ _ => by decide]
  rfl
theorem neD_bl {a b : Bool} {S : Sto} : neD (.bl a) (.bl b) S = .ok (.d (.bl (!(a == b)))) S := rfl
theorem gc_bl (S T : Sto) (v : Bool) : gcR S (.d (.bl v)) (S ++ T) = .ok (.d (.bl v)) S := gcR_app rfl
theorem law_same_ok : ∀ (n : Nat) (d : D) (S : Sto), okD d = true → smD d = true → dpD d < n → f__law_same n [d, d] S = .ok (.d (.bl true)) S
  | 0, d, S, _, _, h => by omega
  | n + 1, .non, S, _, _, _ => by
    show runF 2 3 (b__law_same (f__law_same n)) [.non, .non] S = _
    unfold b__law_same runF
    repeat first | walk_at "ev"
  | n + 1, .bl v, S, _, _, _ => by
    have bt : ∀ v : Bool, eqD (.bl v) (.bl v) S = .ok (.d (.bl true)) S := fun v => by rw [eqD_bl]; cases v <;> rfl
    show runF 2 3 (b__law_same (f__law_same n)) [.bl v, .bl v] S = _
    unfold b__law_same runF
    repeat first | walk_at "ev"
  | n + 1, .int v, S, _, _, _ => by
    have b1 : bInt (.d (.int v)) S = .ok (.d (.int v)) S := rfl
    have e0 : v - v = 0 := by omega
    show runF 2 3 (b__law_same (f__law_same n)) [.int v, .int v] S = _
    unfold b__law_same runF
    repeat first | simp only [b1, e0] | walk_at "ev"
  | n + 1, .str z, S, ho, hs, _ => by
    have hl : z.length ≤ 100000 := of_decide_eq_true hs
    have ln := len_str (S := S) (Nat.le_trans hl (show 100000 ≤ BIG by decide))
    have c0 := same_c0 (r := f__law_same n) (y2 := none) (S := S) (z := z) ho hl
    have nn := nil_nil (S := S)
    have gc := gc_bl S ([O.lst []] ++ [O.lst []]) true
    rw [← List.append_assoc] at gc
    show runF 2 3 (b__law_same (f__law_same n)) [.str z, .str z] S = _
    unfold b__law_same runF
    repeat first | simp only [ln, c0, nn, gc] | walk_at "ev"
  | n + 1, .tup ds, S, ho, hs, hd => by
    unfold okD at ho
    unfold smD at hs
    unfold dpD at hd
    rw [Bool.and_eq_true] at hs
    have hl := of_decide_eq_true hs.1
    have c1 := same_c1 (r := f__law_same n) (y2 := none) (S := S) (a := .tup ds) (e := .tup ds) hl rfl (fun k d h => ixT h) (fun k d h => ixT h) (fun k d h => law_same_ok n d S (okDs_get ho h) (smDs_get hs.2 h) (by have := dpDs_get h; omega))
    have nn := nil_nil (S := S)
    have gc := gc_bl S ([O.lst []] ++ [O.lst []]) true
    rw [← List.append_assoc] at gc
    show runF 2 3 (b__law_same (f__law_same n)) [.tup ds, .tup ds] S = _
    unfold b__law_same runF
    repeat first | simp only [neD_bl, c1, nn, gc] | walk_at "ev"
  | n + 1, .kt ds, S, ho, _, _ => by unfold okD at ho; cases ho
  | n + 1, .ref p, S, ho, _, _ => by unfold okD at ho; cases ho
/-- two lists of the same values -/
theorem law_same_lst {n p q : Nat} {ds : List D} (ho : okDs ds = true) (hs : smDs ds = true) (hl : ds.length ≤ 1000) (hd : dpDs ds < n) (hp : S[p]? = some (.lst ds)) (hq : S[q]? = some (.lst ds)) : f__law_same (n + 1) [.ref p, .ref q] S = .ok (.d (.bl true)) S := by
  have c1 := same_c1 (r := f__law_same n) (y2 := none) (S := S) (a := .ref p) (e := .ref q) (by omega) (len_lst hq) (fun k d h => ixB hp k h) (fun k d h => ixB hq k h) (fun k d h => law_same_ok n d S (okDs_get ho h) (smDs_get hs h) (by have := dpDs_get h; omega))
  have nn := nil_nil (S := S)
  have gc := gc_bl S ([O.lst []] ++ [O.lst []]) true
  rw [← List.append_assoc] at gc
  have tp := ty_lst hp
  have tq := ty_lst hq
  have lp := len_lst hp
  have lq := len_lst hq
  show runF 2 3 (b__law_same (f__law_same n)) [.ref p, .ref q] S = _
  unfold b__law_same runF
  repeat first | simp only [tp, tq, neD_bl, lp, lq, c1, nn, gc] | walk_at "ev"
end

end K0
namespace K0
open PySem L2 PyProof.Rows Ev
local macro_rules | `(tactic| walk_at "ev") => `(tactic| simp only [sFor_eq, sSeq, sRet, sRetN, sIf, sAsg, sExpr, sNext, sPar, sPar3, sCont, sBreak, sNever, eAndM, eOrM, eNotM, eIf, eChain, eOp, eUn, eC, eV, eCall, eIsi, eIsiT, kitAnyB, eTup, eLst, eBi1, aNil, aCons, tVal, tTru, tNotM, tAndM, tOrM, asB, truB, blR, gNm, iAny, bind_ok, bind_no, force_d, force_tl, force_no, gcR_same, walk_tup, walk_tl, walk_str,
  kit_ii, kit_ib, kit_is, kit_it, kit_il, kit_ss, kit_si, kit_sb, kit_st, kit_sl, kit_tt, kit_ti, kit_tb, kit_ts, kit_tl, kit_ll, kit_li, kit_lb, kit_ls, kit_lt, kit_bb, kit_bi, kit_ni, kit_nb, kit_ns, kit_nt, kit_nl, ty_non, ty_bl, ty_int, ty_str, ty_tup,
  leD_int, geD_int, ltD_int, gtD_int, addD_int, subD_int, isD_non, isNotD_non, isD_bl, non_non, non_bl, non_int, non_str, non_tup, non_ref, eqD_int, neD_int, eqD_bl, ixd_tup, len_tup, len_tl, tuple_tl, bg0, bg1, bg2, bg3, bg4, bg5, at0, at1, at2, at3, optR_some,
  List.map_cons, List.map_nil, List.replicate, List.append_nil, List.nil_append, List.cons_append, List.length_cons, List.length_nil, Nat.reduceAdd, Nat.reduceSub, Nat.reduceEqDiff, Nat.reduceLeDiff, if_true, if_false, reduceIte, List.getElem?_cons_zero, List.getElem?_cons_succ, List.set_cons_zero, List.set_cons_succ, Option.bind, Bool.not_true, Bool.not_false, Bool.false_eq_true, beq_self_eq_true, Bool.and_true, Bool.and_false, Bool.true_and, Bool.false_and, Bool.or_true, Bool.or_false, Bool.true_or, Bool.false_or, cst0, cst1, cst2, cst3, cst4, cst5, cst6, Int.reduceLE, Int.reduceLT, Int.reduceBEq, decide_true, decide_false])
/-! what a reader tells of a text -/
section
variable {S S0 S1 S2 : Sto} {x m n : Nat} {rs : List (List Ent)} {md : Nat → Option Nat} {E : List Edg} {kn : List (Option Nat)} {hm : List (List Nat)} {od : List Nat}
def toldL (rs : List (List Ent)) (l : List Nat) : List D := [rdgD (rdg rs l), itmD (rdg rs l), stkD rs l, runD (run rs 0 l)]
theorem perm2 {α : Type} {a b : α} : permL [1, 0] [a, b] = [b, a] := rfl
theorem perm3 {α : Type} {a b c : α} : permL [2, 1, 0] [a, b, c] = [c, b, a] := rfl
theorem perm1 {α : Type} {a : α} : permL [0] [a] = [a] := rfl
theorem cl_told (n : Nat) (rs : List (List Ent)) (l : List Nat) : clDs n (toldL rs l) = true := by
  have h1 : clD n (rdgD (rdg rs l)) = true := by
    cases rdg rs l with
    | none => rfl
    | some es => exact cl_evsD n es
  have h2 : clD n (itmD (rdg rs l)) = true := by
    cases rdg rs l with
    | none => rfl
    | some es =>
      show clD n (.tup (itemsL es)) = true
      unfold clD
      exact cl_items n es
  have h3 : clD n (stkD rs l) = true := by
    unfold stkD
    split <;> rfl
  have h4 : clD n (runD (run rs 0 l)) = true := by
    cases run rs 0 l with
    | none => rfl
    | some p =>
      show clD n (.tup [.int p.1, evsD p.2]) = true
      have := cl_evsD n p.2
      simp [clD, clDs, this]
  unfold toldL
  simp only [clDs, h1, h2, h3, h4]
  rfl
theorem law_told_ok (h : S[x]? = some (readerO m rs md)) (hr : RowsOk m rs) {l : List Nat} (hs : ∀ s ∈ l, s < m) (hl : l.length ≤ 400) (nm : Bool) : f__law_told [.ref x, .str (tx l), .bl nm] S = .ok (.tl (toldL rs l)) S := by
  have e1 := reads_ok h hr hs hl
  have e2 := items_ok h hr hs hl
  have e3 := stuck_at_ok h hr hs hl
  have e4 : f_read_from [.ref x, .int 0, .str (tx l)] S = .ok (.d (runD (run rs 0 l))) S := read_from_ok h hr (k := 0) hr.n1 hs hl
  unfold f__law_told b__law_told runF
  cases nm <;> repeat first | simp only [eCallK, perm2, perm3, e1, e2, e3, e4] | walk_at "ev"
  all_goals rfl
/-- words, one behind the other -/
theorem words_pw (ws : List (List Nat × List Evt)) (h : ∀ w ∈ ws, pw E 0 w.1 = some (0, w.2)) : pw E 0 (ws.flatMap (·.1)) = some (0, ws.flatMap (·.2)) := by
  induction ws with
  | nil => rfl
  | cons w ws ih =>
    rw [List.flatMap_cons, List.flatMap_cons, pw_app _ (h w (List.mem_cons_self ..)), ih fun v hv => h v (List.mem_cons_of_mem _ hv)]
    rfl
theorem rdg_of {l : List Nat} : rdg rs l = match run rs 0 l with
  | some (0, es) => some es
  | _ => none := rfl
section
variable (p : PlanOk m n E kn hm) (o : OrdOk n od) (r : RowsOf m n E od rs)
include p o r
theorem run0 {l : List Nat} (hs : ∀ s ∈ l, s < m) : run rs 0 l = (pw E 0 l).map fun q => (od.getD q.1 0, q.2) := by
  have := r.run p l (a := 0) p.n1 hs
  rw [o.z] at this
  exact this
theorem stk0 {l : List Nat} (hs : ∀ s ∈ l, s < m) : stk rs 0 l 0 = match pw E 0 l with
    | some q => .inr (od.getD q.1 0)
    | none => .inl (0 + sp E 0 l) := by
  have := r.stk p l (a := 0) 0 p.n1 hs
  rw [o.z] at this
  exact this
theorem told_none {l : List Nat} (hs : ∀ s ∈ l, s < m) (h : pw E 0 l = none) : toldL rs l = [.non, .non, iD (sp E 0 l), .non] := by
  have e1 := run0 p o r hs
  have e2 := stk0 p o r hs
  rw [h] at e1 e2
  have e3 : rdg rs l = none := by rw [rdg_of, e1]; rfl
  unfold toldL stkD
  rw [e3, e2, e1]
  simp only [Nat.zero_add]
  rfl
theorem told_mid {l : List Nat} {a : Nat} {es : List Evt} (hs : ∀ s ∈ l, s < m) (h : pw E 0 l = some (a, es)) (ha : a ≠ 0) : toldL rs l = [.non, .non, iD l.length, .tup [iD (od.getD a 0), evsD es]] := by
  have e1 := run0 p o r hs
  have e2 := stk0 p o r hs
  rw [h] at e1 e2
  have an := (p.pwOk l p.n1 h).1
  have hne : od.getD a 0 ≠ 0 := fun q => ha (o.inj an p.n1 (by rw [q, o.z]))
  obtain ⟨k, hk⟩ : ∃ k, od.getD a 0 = k + 1 := ⟨od.getD a 0 - 1, by omega⟩
  have e1' : run rs 0 l = some (k + 1, es) := by rw [e1, Option.map_some, hk]
  have e2' : stk rs 0 l 0 = .inr (k + 1) := by rw [e2]; show Sum.inr (od.getD a 0) = _; rw [hk]
  have e3 : rdg rs l = none := by rw [rdg_of, e1']; rfl
  unfold toldL stkD
  rw [e3, e2', e1', hk]
  rfl
theorem told_end {l : List Nat} {es : List Evt} (hs : ∀ s ∈ l, s < m) (h : pw E 0 l = some (0, es)) : toldL rs l = [evsD es, .tup (itemsL es), .non, .tup [.int 0, evsD es]] := by
  have e1 := run0 p o r hs
  have e2 := stk0 p o r hs
  rw [h] at e1 e2
  have e1' : run rs 0 l = some (0, es) := by rw [e1, Option.map_some, o.z]
  have e2' : stk rs 0 l 0 = .inr 0 := by rw [e2]; show Sum.inr (od.getD 0 0) = _; rw [o.z]
  have e3 : rdg rs l = some es := by rw [rdg_of, e1']; rfl
  unfold toldL stkD
  rw [e3, e2', e1']
  rfl
end
theorem words_mb (p : PlanOk m n E kn hm) (ws : List (List Nat × List Evt)) (h : ∀ w ∈ ws, pw E 0 w.1 = some (0, w.2)) : mb none (ws.flatMap (·.2)) = some none ∧ itm (ws.flatMap (·.2)) = ws.flatMap fun w => itm w.2 := by
  induction ws with
  | nil => exact ⟨rfl, rfl⟩
  | cons w ws ih =>
    obtain ⟨h1, h2⟩ := ih fun v hv => h v (List.mem_cons_of_mem _ hv)
    have h3 := (p.pwOk w.1 p.n1 (h w (List.mem_cons_self ..))).2.1
    rw [p.k0] at h3
    rw [List.flatMap_cons, List.flatMap_cons]
    refine ⟨by rw [mb_app _ h3]; exact h1, ?_⟩
    rw [itm_app h3 (by rw [h1]; simp), h2]
theorem joinL_nil : ∀ ys : List (List Nat), TL.joinL [] ys = ys.flatten
  | [] => rfl
  | [y] => by simp [TL.joinL]
  | y :: z :: ys => by
    show y ++ ([] ++ TL.joinL [] (z :: ys)) = _
    rw [joinL_nil (z :: ys), List.nil_append]
    rfl
theorem join_tx (ls : List (List Nat)) : Txt.join "" (ls.map tx) = tx ls.flatten := by
  have e : ls.map tx = (ls.map fun l => l.map (97 + ·)).map fun l => (⟨l.toArray⟩ : Str) := by rw [List.map_map]; rfl
  have := SX.join_S [] (ls.map fun l => l.map (97 + ·))
  rw [joinL_nil] at this
  rw [e]
  refine Eq.trans this ?_
  show (⟨((ls.map fun l => l.map (97 + ·)).flatten).toArray⟩ : Str) = ⟨(ls.flatten.map (97 + ·)).toArray⟩
  rw [List.map_flatten]
theorem strsD_tx : ∀ ls : List (List Nat), strsD (ls.map fun l => D.str (tx l)) = some (ls.map tx)
  | [] => rfl
  | l :: ls => by
    rw [List.map_cons]
    show (strsD (ls.map fun l => D.str (tx l))).map (tx l :: ·) = _
    rw [strsD_tx ls]
    rfl
end

end K0
namespace K0
open PySem L2 PyProof.Rows Ev
local macro_rules | `(tactic| walk_at "ev") => `(tactic| simp only [sFor_eq, sSeq, sRet, sRetN, sIf, sAsg, sExpr, sNext, sPar, sPar3, sCont, sBreak, sNever, eAndM, eOrM, eNotM, eIf, eChain, eOp, eUn, eC, eV, eCall, eIsi, eIsiT, kitAnyB, eTup, eLst, eBi1, aNil, aCons, tVal, tTru, tNotM, tAndM, tOrM, asB, truB, blR, gNm, iAny, bind_ok, bind_no, force_d, force_tl, force_no, gcR_same, walk_tup, walk_tl, walk_str,
  kit_ii, kit_ib, kit_is, kit_it, kit_il, kit_ss, kit_si, kit_sb, kit_st, kit_sl, kit_tt, kit_ti, kit_tb, kit_ts, kit_tl, kit_ll, kit_li, kit_lb, kit_ls, kit_lt, kit_bb, kit_bi, kit_ni, kit_nb, kit_ns, kit_nt, kit_nl, ty_non, ty_bl, ty_int, ty_str, ty_tup,
  leD_int, geD_int, ltD_int, gtD_int, addD_int, subD_int, isD_non, isNotD_non, isD_bl, non_non, non_bl, non_int, non_str, non_tup, non_ref, eqD_int, neD_int, eqD_bl, ixd_tup, len_tup, len_tl, tuple_tl, bg0, bg1, bg2, bg3, bg4, bg5, at0, at1, at2, at3, optR_some,
  List.map_cons, List.map_nil, List.replicate, List.append_nil, List.nil_append, List.cons_append, List.length_cons, List.length_nil, Nat.reduceAdd, Nat.reduceSub, Nat.reduceEqDiff, Nat.reduceLeDiff, if_true, if_false, reduceIte, List.getElem?_cons_zero, List.getElem?_cons_succ, List.set_cons_zero, List.set_cons_succ, Option.bind, Bool.not_true, Bool.not_false, Bool.false_eq_true, beq_self_eq_true, Bool.and_true, Bool.and_false, Bool.true_and, Bool.false_and, Bool.or_true, Bool.or_false, Bool.true_or, Bool.false_or, cst0, cst1, cst2, cst3, cst4, cst5, cst6, Int.reduceLE, Int.reduceLT, Int.reduceBEq, decide_true, decide_false])
/-! a text of words and the beginning of one more -/
section
variable {S S0 S1 S2 : Sto} {x m n : Nat} {rs : List (List Ent)} {md : Nat → Option Nat} {E : List Edg} {kn : List (Option Nat)} {hm : List (List Nat)} {od : List Nat}
abbrev Word := List Nat × List Evt
def wordD (w : Word) : D := .tup [.str (tx w.1), evsD w.2]
def wT (ws : List Word) : List Nat := ws.flatMap (·.1)
def wE (ws : List Word) : List Evt := ws.flatMap (·.2)
def wI (ws : List Word) : List Itm := ws.flatMap fun w => itm w.2
structure WordsOk (m : Nat) (E : List Edg) (ws : List Word) : Prop where
  pw : ∀ w ∈ ws, pw E 0 w.1 = some (0, w.2)
  ln : ∀ w ∈ ws, w.1.length ≤ 8
  sg : ∀ w ∈ ws, ∀ s ∈ w.1, s < m
theorem fm_len {α β : Type} (f : α → List β) (k : Nat) : ∀ l : List α, (∀ a ∈ l, (f a).length ≤ k) → (l.flatMap f).length ≤ k * l.length
  | [], _ => Nat.zero_le _
  | a :: l, h => by
    rw [List.flatMap_cons, List.length_append, List.length_cons, Nat.mul_add]
    have h1 := h a (List.mem_cons_self ..)
    have h2 := fm_len f k l fun b hb => h b (List.mem_cons_of_mem _ hb)
    omega
theorem itm_len (es : List Evt) : (itm es).length ≤ es.length := by
  have : ∀ (es : List Evt) (st : ImS), (es.foldl imStep st).1.length ≤ st.1.length + es.length := by
    intro es
    induction es with
    | nil => exact fun st => Nat.le_refl _
    | cons e es ih =>
      intro st
      rw [List.foldl_cons, List.length_cons]
      have h1 := ih (imStep st e)
      have h2 := (imStep_len st e).1
      omega
  have h := this es ([], 0, [])
  simpa [itm] using h
theorem WordsOk.ev (w : WordsOk m E ws) (hE : ∀ e ∈ E, e.2.2.length ≤ 2) : ∀ v ∈ ws, v.2.length ≤ 16 := fun v hv => by
  have h1 := pw_len hE v.1 (w.pw v hv)
  have h2 := w.ln v hv
  omega
variable {y0 y1 y2 y3 y4 y5 y6 y7 y8 y9 y10 : Option D} {ws : List Word}
theorem tr_c0 {wr : Nat} (h : S[wr]? = some (.lst (ws.map wordD))) (hl : ws.length ≤ 100) : c__law_text_right_0 [y0, some (.ref wr), y2, y3, y4, y5, y6, y7, y8, y9, y10] S = .ok (.tl (ws.map fun w => D.str (tx w.1))) S := by
  unfold c__law_text_right_0
  rw [eComp_eq]
  have w : iAny (eV 1) [y0, some (.ref wr), y2, y3, y4, y5, y6, y7, y8, y9, y10] S = .ok ⟨ws.map wordD, fun S' => Ev.listAt S' wr = some (ws.map wordD)⟩ S := walk_lst h
  rw [w, bind_ok]
  have lc := lc_selM (chk := fun S' => Ev.listAt S' wr = some (ws.map wordD)) (g := gNm 5) (tt := tYesM) (te := eOp ixD (eV 5) (eC (.int 0))) (s0 := wipeE [y0, some (.ref wr), y2, y3, y4, y5, y6, y7, y8, y9, y10] [5]) (S := S) wordD (listAt_lst h) (fun _ => true) (fun w : Word => D.str (tx w.1)) ws [] (by simp; exact Nat.le_trans hl (by decide)) (fun c _ => ⟨_, rfl, rfl, fun _ => by
    simp only [wipeE, wordD]
    repeat first | walk_at "ev"⟩)
  rw [lc, bind_ok, List.nil_append, show ws.filter (fun _ => true) = ws from List.filter_eq_self.mpr fun _ _ => rfl]
theorem tr_l0 {chk : Sto → Prop} (hc : chk S) : ∀ (ws : List Word) (acc : List Evt) (y5 : Option D), (∀ w ∈ ws, w.2.length ≤ 16) → acc.length + 16 * ws.length ≤ 10000 →
    ∃ z5, loopF chk (forB (gNm 5) b__law_text_right_l0) (ws.map wordD) [y0, y1, y2, y3, y4, y5, y6, some (evsD acc), y8, y9, y10] S = .ok (.nx [y0, y1, y2, y3, y4, z5, y6, some (evsD (acc ++ wE ws)), y8, y9, y10]) S
  | [], acc, y5, _, _ => ⟨y5, by rw [show wE [] = [] from rfl, List.append_nil]; exact lp_nilC hc⟩
  | w :: ws, acc, y5, hw, hl => by
    rw [List.length_cons] at hl
    have w16 := hw w (List.mem_cons_self ..)
    obtain ⟨z5, e⟩ := tr_l0 hc ws (acc ++ w.2) (some (wordD w)) (fun v hv => hw v (List.mem_cons_of_mem _ hv)) (by rw [List.length_append]; omega)
    refine ⟨z5, ?_⟩
    have ad : addD (evsD acc) (evsD w.2) S = .ok (.d (evsD (acc ++ w.2))) S := by
      unfold evsD
      rw [addD_tup (by rw [List.length_map, List.length_map]; exact Nat.le_trans (show acc.length + w.2.length ≤ 10000 by omega) (by decide)), List.map_append]
    have step : forB (gNm 5) b__law_text_right_l0 (wordD w) [y0, y1, y2, y3, y4, y5, y6, some (evsD acc), y8, y9, y10] S = .ok (.nx [y0, y1, y2, y3, y4, some (wordD w), y6, some (evsD (acc ++ w.2)), y8, y9, y10]) S := by
      unfold forB b__law_text_right_l0
      simp only [wordD]
      repeat first | simp only [ad] | walk_at "ev"
    rw [List.map_cons, lp_consC hc, step, bind_ok, show wE (w :: ws) = w.2 ++ wE ws from rfl, ← List.append_assoc]
    exact e
theorem extend_T {p : Nat} {xs ys : List D} {S : Sto} (h : S[p]? = some (.lst xs)) (hl : xs.length + ys.length ≤ BIG) : mExtend "list" (.ref p) [.tup ys] S = .ok (.d .non) (S.set p (.lst (xs ++ ys))) := by
  unfold mExtend
  rw [if_pos rfl]
  simp only [withL, h]
  rw [if_pos hl]
theorem tr_l1 {q wr : Nat} {o : O} {chk : Sto → Prop} (hq : wr ≠ q) (hC : ∀ S' : Sto, S'[wr]? = some o → chk S') : ∀ (ws : List Word) (S1 : Sto) (acc : List Itm) (y5 : Option D), S1[wr]? = some o → S1[q]? = some (.lst (acc.map Itm.D)) → (∀ w ∈ ws, w.2.length ≤ 16) → acc.length + 16 * ws.length ≤ 10000 →
    ∃ z5, loopF chk (forB (gNm 5) b__law_text_right_l1) (ws.map wordD) [y0, y1, y2, y3, y4, y5, y6, y7, some (.ref q), y9, y10] S1 = .ok (.nx [y0, y1, y2, y3, y4, z5, y6, y7, some (.ref q), y9, y10]) (S1.set q (.lst ((acc ++ wI ws).map Itm.D)))
  | [], S1, acc, y5, h0, h1, _, _ => ⟨y5, by
      rw [show wI [] = [] from rfl, List.append_nil]
      have : S1.set q (.lst (acc.map Itm.D)) = S1 := by
        apply List.ext_getElem?
        intro i
        by_cases hi : i = q
        · subst hi; rw [List.getElem?_set_self (List.getElem?_eq_some_iff.mp h1).1, h1]
        · rw [List.getElem?_set_ne (Ne.symm hi)]
      rw [this]
      exact lp_nilC (hC _ h0)⟩
  | w :: ws, S1, acc, y5, h0, h1, hw, hl => by
    rw [List.length_cons] at hl
    have w16 := hw w (List.mem_cons_self ..)
    have il := itm_len w.2
    have ql := (List.getElem?_eq_some_iff.mp h1).1
    obtain ⟨z5, e⟩ := tr_l1 hq hC ws (S1.set q (.lst ((acc ++ itm w.2).map Itm.D))) (acc ++ itm w.2) (some (wordD w)) (by rw [List.getElem?_set_ne (Ne.symm hq)]; exact h0) (List.getElem?_set_self ql) (fun v hv => hw v (List.mem_cons_of_mem _ hv)) (by rw [List.length_append]; omega)
    refine ⟨z5, ?_⟩
    have it := law_items_ok (es := w.2) (by omega) S1
    have ex := extend_T (ys := (itm w.2).map Itm.D) h1 (by rw [List.length_map, List.length_map]; exact Nat.le_trans (show acc.length + (itm w.2).length ≤ 10000 by omega) (by decide))
    rw [← List.map_append] at ex
    have ty := tyD_lst h1
    have step : forB (gNm 5) b__law_text_right_l1 (wordD w) [y0, y1, y2, y3, y4, y5, y6, y7, some (.ref q), y9, y10] S1 = .ok (.nx [y0, y1, y2, y3, y4, some (wordD w), y6, y7, some (.ref q), y9, y10]) (S1.set q (.lst ((acc ++ itm w.2).map Itm.D))) := by
      have it' : f__law_items [evsD w.2] S1 = .ok (.d (.tup ((itm w.2).map Itm.D))) S1 := it
      unfold forB b__law_text_right_l1
      simp only [wordD]
      repeat first | simp only [it', eMeth, ty, ex] | walk_at "ev"
    rw [List.map_cons, lp_consC (hC _ h0), step, bind_ok, show wI (w :: ws) = itm w.2 ++ wI ws from rfl, ← List.append_assoc]
    rw [List.set_set] at e
    exact e
end

end K0
namespace K0
open PySem L2 PyProof.Rows Ev
local macro_rules | `(tactic| walk_at "ev") => `(tactic| simp only [sFor_eq, sSeq, sRet, sRetN, sIf, sAsg, sExpr, sNext, sPar, sPar3, sCont, sBreak, sNever, eAndM, eOrM, eNotM, eIf, eChain, eOp, eUn, eC, eV, eCall, eIsi, eIsiT, kitAnyB, eTup, eLst, eBi1, aNil, aCons, tVal, tTru, tNotM, tAndM, tOrM, asB, truB, blR, gNm, iAny, bind_ok, bind_no, force_d, force_tl, force_no, gcR_same, walk_tup, walk_tl, walk_str,
  kit_ii, kit_ib, kit_is, kit_it, kit_il, kit_ss, kit_si, kit_sb, kit_st, kit_sl, kit_tt, kit_ti, kit_tb, kit_ts, kit_tl, kit_ll, kit_li, kit_lb, kit_ls, kit_lt, kit_bb, kit_bi, kit_ni, kit_nb, kit_ns, kit_nt, kit_nl, ty_non, ty_bl, ty_int, ty_str, ty_tup,
  leD_int, geD_int, ltD_int, gtD_int, addD_int, subD_int, isD_non, isNotD_non, isD_bl, non_non, non_bl, non_int, non_str, non_tup, non_ref, eqD_int, neD_int, eqD_bl, ixd_tup, len_tup, len_tl, tuple_tl, bg0, bg1, bg2, bg3, bg4, bg5, at0, at1, at2, at3, optR_some,
  List.map_cons, List.map_nil, List.replicate, List.append_nil, List.nil_append, List.cons_append, List.length_cons, List.length_nil, Nat.reduceAdd, Nat.reduceSub, Nat.reduceEqDiff, Nat.reduceLeDiff, if_true, if_false, reduceIte, List.getElem?_cons_zero, List.getElem?_cons_succ, List.set_cons_zero, List.set_cons_succ, Option.bind, Bool.not_true, Bool.not_false, Bool.false_eq_true, beq_self_eq_true, Bool.and_true, Bool.and_false, Bool.true_and, Bool.false_and, Bool.or_true, Bool.or_false, Bool.true_or, Bool.false_or, cst0, cst1, cst2, cst3, cst4, cst5, cst6, Int.reduceLE, Int.reduceLT, Int.reduceBEq, decide_true, decide_false])
section
variable {S S0 S1 S2 : Sto} {x m n : Nat} {rs : List (List Ent)} {md : Nat → Option Nat} {E : List Edg} {kn : List (Option Nat)} {hm : List (List Nat)} {od : List Nat} {ws : List Word}
theorem same_lsts {ds : List D} (ho : okDs ds = true) (hs : smDs ds = true) (hl : ds.length ≤ 1000) (hd : dpDs ds < 11) : f__law_same 12 [.ref S.length, .ref (S ++ [O.lst ds]).length] (S ++ [O.lst ds] ++ [O.lst ds]) = .ok (.d (.bl true)) (S ++ [O.lst ds] ++ [O.lst ds]) :=
  law_same_lst ho hs hl hd (by rw [List.getElem?_append_left (by simp), getElem?_snoc]) (getElem?_snoc _ _)
theorem ln_w : (decide ((Str.ofString "mark").length ≤ 100000) = true ∧ decide ((Str.ofString "open").length ≤ 100000) = true) ∧ (decide ((Str.ofString "say").length ≤ 100000) = true ∧ decide ((Str.ofString "shut").length ≤ 100000) = true) ∧ decide ((Str.ofString "field").length ≤ 100000) = true := by decide +kernel
theorem sm_evs {es : List Evt} (h : es.length ≤ 100000) : smD (evsD es) = true := by
  unfold evsD smD
  rw [Bool.and_eq_true]
  refine ⟨decide_eq_true (by rw [List.length_map]; exact h), ?_⟩
  clear h
  induction es with
  | nil => rfl
  | cons e es ih =>
    rw [List.map_cons]
    unfold smDs
    rw [ih, Bool.and_true]
    cases e with
    | _ => simp only [Evt.D, smD, smDs, Bool.and_true, tx_len, ln_w.1.1, ln_w.1.2, ln_w.2.1.1, ln_w.2.1.2, List.length_cons, List.length_nil]; rfl
/-- items that are allowed -/
def imOk (m : Nat) : Itm → Prop
  | .mark n => n ≤ 5
  | .fld k s => k ≤ 2 ∧ s.length ≤ 1000 ∧ ∀ c ∈ s, c < m
theorem imStep_ok {m : Nat} (hm : m ≤ 6) : ∀ (es : List Evt) (st : ImS), (∀ i ∈ st.1, imOk m i) → st.2.1 ≤ 2 → (∀ c ∈ st.2.2, c < m) → st.2.2.length + es.length ≤ 1000 → (∀ e ∈ es, evOk m e) → ∀ i ∈ (es.foldl imStep st).1, imOk m i
  | [], st, h1, _, _, _, _ => h1
  | e :: es, (f, k, s), h1, h2, h3, h4, h5 => by
    rw [List.foldl_cons]
    rw [List.length_cons] at h4
    have he := h5 e (List.mem_cons_self ..)
    have h5' : ∀ e ∈ es, evOk m e := fun x hx => h5 x (List.mem_cons_of_mem _ hx)
    simp only at h1 h2 h3 h4
    cases e with
    | mark c =>
      exact imStep_ok hm es _ (fun i hi => by
        rcases List.mem_append.mp hi with hi | hi
        · exact h1 i hi
        · rw [List.mem_singleton.mp hi]; exact he) h2 h3 (show s.length + es.length ≤ 1000 by omega) h5'
    | opn j => exact imStep_ok hm es _ h1 he (fun c hc => by cases hc) (show 0 + es.length ≤ 1000 by omega) h5'
    | say c =>
      exact imStep_ok hm es _ h1 h2 (fun x hx => by
        rcases List.mem_append.mp hx with hx | hx
        · exact h3 x hx
        · rw [List.mem_singleton.mp hx]; exact he) (show (s ++ [c]).length + es.length ≤ 1000 by rw [List.length_append, List.length_singleton]; omega) h5'
    | shut =>
      exact imStep_ok hm es _ (fun i hi => by
        rcases List.mem_append.mp hi with hi | hi
        · exact h1 i hi
        · rw [List.mem_singleton.mp hi]; exact ⟨h2, by omega, h3⟩) h2 h3 (show s.length + es.length ≤ 1000 by omega) h5'
theorem itm_ok {m : Nat} (hm : m ≤ 6) {es : List Evt} (hl : es.length ≤ 1000) (h : ∀ e ∈ es, evOk m e) : ∀ i ∈ itm es, imOk m i :=
  imStep_ok hm es ([], 0, []) (fun i hi => by cases hi) (by decide) (fun c hc => by cases hc) (by simpa using hl) h
theorem ok_itms {m : Nat} (hm : m ≤ 6) {l : List Itm} (h : ∀ i ∈ l, imOk m i) (hl : l.length ≤ 100000) : okD (itmsD l) = true ∧ dpD (itmsD l) ≤ 2 ∧ smD (itmsD l) = true := by
  have key : ∀ i, imOk m i → okD i.D = true ∧ dpD i.D ≤ 1 ∧ smD i.D = true := fun i hi => by
    cases i with
    | mark c =>
      obtain ⟨g1, g2⟩ := ok_evt hm (e := .mark c) hi
      exact ⟨g1, g2, by simp only [Itm.D, Evt.D, smD, smDs, Bool.and_true, ln_w.1.1, List.length_cons, List.length_nil]; rfl⟩
    | fld k s =>
      obtain ⟨g1, g2, g3⟩ := hi
      have s1 : PyData.strOk (tx s) = true := strOk_tx fun c hc => by have := g3 c hc; omega
      have s2 : PyData.strOk "field" = true := by decide +kernel
      refine ⟨?_, Nat.le_refl _, ?_⟩
      · simp only [Itm.D, fieldD, modeD, okD, okDs, s1, s2]; rfl
      · simp only [Itm.D, fieldD, modeD, smD, smDs, tx_len, ln_w.2.2, List.length_cons, List.length_nil]
        rw [decide_eq_true (show s.length ≤ 100000 by omega)]
        rfl
  unfold itmsD okD dpD smD
  refine ⟨okDs_map _ _ fun i hi => (key i (h i hi)).1, Nat.succ_le_succ (dpDs_map _ _ fun i hi => (key i (h i hi)).2.1), ?_⟩
  rw [Bool.and_eq_true]
  refine ⟨decide_eq_true (by rw [List.length_map]; exact hl), ?_⟩
  clear hl
  induction l with
  | nil => rfl
  | cons i l ih =>
    rw [List.map_cons]
    unfold smDs
    rw [(key i (h i (List.mem_cons_self ..))).2.2, ih fun j hj => h j (List.mem_cons_of_mem _ hj)]
    rfl
theorem law_text_right_ok {wr op : Nat} {more : List Nat} (hrd : S[x]? = some (readerO m rs md)) (hwr : S[wr]? = some (.lst (ws.map wordD))) (hop : S[op]? = some (iL od)) (p : PlanOk m n E kn hm) (o : OrdOk n od) (r : RowsOf m n E od rs) (w : WordsOk m E ws) (hws : ws.length ≤ 8) (hm9 : more.length ≤ 9) (hms : ∀ s ∈ more, s < m) (nm : Bool) :
    f__law_text_right [.ref x, .ref wr, .tup [.str (tx more), bhD E more], .ref op, .bl nm] S = .ok (.d (.bl true)) S := by
  have hr := r.rowsOk p o
  have m6 := p.m6
  have wl : (wT ws).length ≤ 64 := by
    have := fm_len (fun w : Word => w.1) 8 ws w.ln
    exact Nat.le_trans this (by omega)
  have wl2 : (ws.map fun w : Word => w.1.length).sum ≤ 64 := by
    have : (wT ws).length = (ws.map fun w : Word => w.1.length).sum := by unfold wT; rw [List.length_flatMap]
    omega
  have ev := w.ev p.ev2
  have wel : (wE ws).length ≤ 128 := by
    have := fm_len (fun w : Word => w.2) 16 ws ev
    exact Nat.le_trans this (by omega)
  have pww := words_pw ws w.pw
  have sg : ∀ s ∈ wT ws ++ more, s < m := fun s hs => by
    rcases List.mem_append.mp hs with hs | hs
    · obtain ⟨v, hv, h⟩ := List.mem_flatMap.mp hs
      exact w.sg v hv s h
    · exact hms s hs
  have len : (wT ws ++ more).length ≤ 80 := by rw [List.length_append]; omega
  have c0 : c__law_text_right_0 [some (.ref x), some (.ref wr), some (.tup [.str (tx more), bhD E more]), some (.ref op), some (.bl nm), none, none, none, none, none, none] S = .ok (.tl (ws.map fun w => D.str (tx w.1))) S := tr_c0 hwr (by omega)
  obtain ⟨S1, hS1⟩ : ∃ S1, S1 = S ++ [O.lst (ws.map fun w : Word => D.str (tx w.1))] := ⟨_, rfl⟩
  have x1 : Ex S S1 := by rw [hS1]; exact (Ex.refl S).app _
  have jo : mJoin "str" (.str "") [.ref S.length] S1 = .ok (.d (.str (tx (wT ws)))) S1 := by
    have h1 : seqD (.ref S.length) S1 = some ((ws.map (·.1)).map fun l => D.str (tx l)) := by
      rw [hS1, List.map_map]
      exact seqD_lst (getElem?_snoc _ _)
    have h2 : Txt.join "" ((ws.map (·.1)).map tx) = tx (wT ws) := by
      rw [join_tx]
      rfl
    unfold mJoin
    rw [if_pos rfl]
    simp only [h1, Option.bind, strsD_tx]
    rw [if_pos, h2]
    rw [List.map_map, List.map_map]
    have : (List.map (((fun x => x.length) ∘ tx) ∘ fun x => x.1) ws) = ws.map fun w : Word => w.1.length := List.map_congr_left fun w _ => tx_len w.1
    rw [this]
    show _ + _ * 0 ≤ _
    omega
  have wk1 := walk_lst (x1.at_ hwr)
  obtain ⟨z5, l0⟩ := tr_l0 (S := S1) (chk := fun S' => Ev.listAt S' wr = some (ws.map wordD)) (y0 := some (.ref x)) (y1 := some (.ref wr)) (y2 := some (.tup [.str (tx more), bhD E more])) (y3 := some (.ref op)) (y4 := some (.bl nm)) (y6 := some (.str (tx (wT ws)))) (y8 := none) (y9 := none) (y10 := none) (listAt_lst (x1.at_ hwr)) ws [] none ev (by simp; omega)
  rw [List.nil_append] at l0
  have l0' : loopF (fun S' => Ev.listAt S' wr = some (ws.map wordD)) (forB (gNm 5) b__law_text_right_l0) (ws.map wordD) [some (.ref x), some (.ref wr), some (.tup [.str (tx more), bhD E more]), some (.ref op), some (.bl nm), none, some (.str (tx (wT ws))), some (.tup []), none, none, none] S1 = _ := l0
  obtain ⟨S2, hS2⟩ : ∃ S2, S2 = S1 ++ [O.lst []] := ⟨_, rfl⟩
  have x2 : Ex S S2 := by rw [hS2]; exact x1.app _
  have wk2 := walk_lst (x2.at_ hwr)
  have q2 : S2[S1.length]? = some (.lst (([] : List Itm).map Itm.D)) := by rw [hS2]; exact getElem?_snoc _ _
  have wrl := (List.getElem?_eq_some_iff.mp hwr).1
  have x1l := x1.len
  obtain ⟨z5', l1⟩ := tr_l1 (q := S1.length) (wr := wr) (o := .lst (ws.map wordD)) (chk := fun S' => Ev.listAt S' wr = some (ws.map wordD)) (y0 := some (.ref x)) (y1 := some (.ref wr)) (y2 := some (.tup [.str (tx more), bhD E more])) (y3 := some (.ref op)) (y4 := some (.bl nm)) (y6 := some (.str (tx (wT ws)))) (y7 := some (evsD (wE ws))) (y9 := none) (y10 := none) (by omega) (fun S' h => listAt_lst h) ws S2 [] z5 (x2.at_ hwr) q2 ev (by simp; omega)
  rw [List.nil_append] at l1
  obtain ⟨S3, hS3⟩ : ∃ S3, S3 = S2.set S1.length (.lst ((wI ws).map Itm.D)) := ⟨_, rfl⟩
  rw [← hS3] at l1
  have x3 : Ex S S3 := by rw [hS3]; exact x2.put _ x1l
  have q3 : S3[S1.length]? = some (.lst ((wI ws).map Itm.D)) := by rw [hS3]; exact List.getElem?_set_self (List.getElem?_eq_some_iff.mp q2).1
  have ad : ∀ T : Sto, addD (.str (tx (wT ws))) (.str (tx more)) T = .ok (.d (.str (tx (wT ws ++ more)))) T := fun T => by
    rw [addD_str (by rw [tx_len, tx_len]; exact Nat.le_trans (show (wT ws).length + more.length ≤ 100 by omega) (by decide)), tx_app]
  have td := fun (T : Sto) (hT : Ex S T) => law_told_ok (hT.at_ hrd) hr sg (show (wT ws ++ more).length ≤ 400 by omega) nm
  have td3 := td S3 x3
  have lnT : ∀ T : Sto, bLen (.d (.str (tx (wT ws)))) T = .ok (.d (.int ((wT ws).length : Nat))) T := fun T => lenT (by omega)
  have lnM : ∀ T : Sto, bLen (.d (.str (tx (wT ws ++ more)))) T = .ok (.d (.int ((wT ws ++ more).length : Nat))) T := fun T => lenT (by omega)
  have tys : ∀ T : Sto, tyD (.str "") T = some "str" := fun _ => rfl
  have gc : ∀ (T : Sto) (v : Bool), Ex S T → gcR S (.d (.bl v)) T = .ok (.d (.bl v)) S := fun T v h => h.gc rfl
  cases hpw : pw E 0 more with
  | none =>
    have hb : bhD E more = .int ((sp E 0 more : Nat) : Int) := by unfold bhD; rw [hpw]
    have hall : pw E 0 (wT ws ++ more) = none := by
      unfold wT
      rw [pw_app _ pww, hpw]; rfl
    have hsp : sp E 0 (wT ws ++ more) = (wT ws).length + sp E 0 more := by
      unfold wT
      exact sp_app _ pww
    have tn := told_none p o r sg hall
    rw [tn, hsp] at td3
    have sm := same_lsts (S := S3) (ds := [.non, .non, iD ((wT ws).length + sp E 0 more), .non]) rfl rfl (by simp) (by simp [dpDs, dpD])
    have g := gc _ true ((x3.app [O.lst [.non, .non, iD ((wT ws).length + sp E 0 more), .non]]).app [O.lst [.non, .non, iD ((wT ws).length + sp E 0 more), .non]])
    simp only [iD, Int.natCast_add] at sm g td3
    rw [hb] at c0 l0' l1 ⊢
    unfold f__law_text_right b__law_text_right runF
    repeat first | simp only [eMeth, tys, c0, ← hS1, jo, wk1, l0', ← hS2, wk2, l1, gTp, gsCons, gsNil, seqD_tup, ad, td3, lnT, sm, g] | walk_at "ev"
  | some q =>
    obtain ⟨a, es⟩ := q
    have hb : bhD E more = .tup [iD a, evsD es] := by unfold bhD; rw [hpw]
    have hall : pw E 0 (wT ws ++ more) = some (a, wE ws ++ es) := by
      unfold wT
      rw [pw_app _ pww, hpw]; rfl
    obtain ⟨an, hmb, heo⟩ := p.pwOk _ p.n1 hall
    have esl := pw_len p.ev2 more hpw
    have adE : ∀ T : Sto, addD (evsD (wE ws)) (evsD es) T = .ok (.d (evsD (wE ws ++ es))) T := fun T => by
      unfold evsD
      rw [addD_tup (by rw [List.length_map, List.length_map]; exact Nat.le_trans (show (wE ws).length + es.length ≤ 1000 by omega) (by decide)), List.map_append]
    have evl : (wE ws ++ es).length ≤ 200 := by rw [List.length_append]; omega
    obtain ⟨oe, de⟩ := ok_evs m6 heo
    have se : smD (evsD (wE ws ++ es)) = true := sm_evs (by omega)
    rw [hb] at c0 l0' l1 ⊢
    by_cases ha : a = 0
    · subst ha
      have te := told_end p o r sg hall
      rw [p.k0] at hmb
      obtain ⟨mbw, itw⟩ := words_mb p ws w.pw
      have hmb2 : mb none es = some none := by
        have := hmb
        unfold wE at this
        rw [mb_app _ mbw] at this
        exact this
      have hit : itm (wE ws ++ es) = wI ws ++ itm es := by
        unfold wE
        rw [itm_app mbw (by rw [hmb2]; simp), itw]
        rfl
      have hil : itemsL (wE ws ++ es) = (wI ws ++ itm es).map Itm.D := by rw [items_itm (by rw [hmb]; simp), hit]
      rw [hil] at te
      have io := itm_ok m6 (by omega) heo
      rw [hit] at io
      have il : (wI ws ++ itm es).length ≤ 200 := by
        have := itm_len (wE ws ++ es)
        rw [hit] at this
        omega
      obtain ⟨k1, k2, k3⟩ := ok_itms m6 io (by omega)
      have hfl : (wI ws ++ itm es).flatMap flatI = wE ws ++ es := by rw [← hit]; exact itm_flat hmb
      have fl := fun T => law_flat_ok (l := wI ws ++ itm es) (by rw [hfl]; omega) T
      rw [hfl] at fl
      have tl3 := tuple_lst q3
      have it3 := fun T => law_items_ok (es := es) (by omega) T
      have adI : ∀ T : Sto, addD (.tup ((wI ws).map Itm.D)) (itmsD (itm es)) T = .ok (.d (itmsD (wI ws ++ itm es))) T := fun T => by
        unfold itmsD
        rw [addD_tup (by rw [List.length_map, List.length_map]; rw [List.length_append] at il; exact Nat.le_trans il (by decide)), List.map_append]
      have eqS : ∀ T : Sto, eqD (evsD (wE ws ++ es)) (evsD (wE ws ++ es)) T = .ok (.d (.bl true)) T := fun T => eqD_self oe (by omega) T
      rw [te] at td3
      have td3' : f__law_told [.ref x, .str (tx (wT ws ++ more)), .bl nm] S3 = .ok (.tl [evsD (wE ws ++ es), itmsD (wI ws ++ itm es), .non, .tup [.int 0, evsD (wE ws ++ es)]]) S3 := td3
      have sm := same_lsts (S := S3) (ds := [evsD (wE ws ++ es), itmsD (wI ws ++ itm es), .non, .tup [.int 0, evsD (wE ws ++ es)]]) (by simp [okDs, okD, oe, k1]) (by simp [smDs, smD, se, k3]) (by simp) (by simp [dpDs, dpD]; omega)
      have g := gc _ true ((x3.app [O.lst [evsD (wE ws ++ es), itmsD (wI ws ++ itm es), .non, .tup [.int 0, evsD (wE ws ++ es)]]]).app [O.lst [evsD (wE ws ++ es), itmsD (wI ws ++ itm es), .non, .tup [.int 0, evsD (wE ws ++ es)]]])
      have ne0 : ∀ T : Sto, neD (iD 0) (.int 0) T = .ok (.d (.bl false)) T := fun _ => rfl
      unfold f__law_text_right b__law_text_right runF
      repeat first | simp only [eMeth, tys, c0, ← hS1, jo, wk1, l0', ← hS2, wk2, l1, gTp, gsCons, gsNil, seqD_tup, ad, adE, adI, tl3, it3, fl, eqS, ne0, td3', sm, g] | walk_at "ev"
    · have tm := told_mid p o r sg hall ha
      rw [tm] at td3
      have ix := fun (T : Sto) (hT : Ex S T) => ixL (hT.at_ hop) (i := a) (o.at_ an)
      have ne0 : ((a : Int) == 0) = false := by simp; omega
      have sm := same_lsts (S := S3) (ds := [.non, .non, iD (wT ws ++ more).length, .tup [iD (od.getD a 0), evsD (wE ws ++ es)]]) (by simp [okDs, okD, oe]) (by simp [smDs, smD, se]) (by simp) (by simp [dpDs, dpD]; omega)
      have x4 := x3.app [O.lst [.non, .non, iD (wT ws ++ more).length, .tup [iD (od.getD a 0), evsD (wE ws ++ es)]]]
      have g := gc _ true (x4.app [O.lst [.non, .non, iD (wT ws ++ more).length, .tup [iD (od.getD a 0), evsD (wE ws ++ es)]]])
      have ix4 := ix _ x4
      unfold f__law_text_right b__law_text_right runF
      repeat first | simp only [eMeth, tys, c0, ← hS1, jo, wk1, l0', ← hS2, wk2, l1, gTp, gsCons, gsNil, seqD_tup, ad, adE, ne0, lnM, ix4, td3, sm, g] | walk_at "ev"
end

end K0
namespace K0
open PySem L2 PyProof.Rows Ev
local macro_rules | `(tactic| walk_at "ev") => `(tactic| simp only [sFor_eq, sSeq, sRet, sRetN, sIf, sAsg, sExpr, sNext, sPar, sPar3, sCont, sBreak, sNever, eAndM, eOrM, eNotM, eIf, eChain, eOp, eUn, eC, eV, eCall, eIsi, eIsiT, kitAnyB, eTup, eLst, eBi1, aNil, aCons, tVal, tTru, tNotM, tAndM, tOrM, asB, truB, blR, gNm, iAny, bind_ok, bind_no, force_d, force_tl, force_no, gcR_same, walk_tup, walk_tl, walk_str,
  kit_ii, kit_ib, kit_is, kit_it, kit_il, kit_ss, kit_si, kit_sb, kit_st, kit_sl, kit_tt, kit_ti, kit_tb, kit_ts, kit_tl, kit_ll, kit_li, kit_lb, kit_ls, kit_lt, kit_bb, kit_bi, kit_ni, kit_nb, kit_ns, kit_nt, kit_nl, ty_non, ty_bl, ty_int, ty_str, ty_tup,
  leD_int, geD_int, ltD_int, gtD_int, addD_int, subD_int, isD_non, isNotD_non, isD_bl, non_non, non_bl, non_int, non_str, non_tup, non_ref, eqD_int, neD_int, eqD_bl, ixd_tup, len_tup, len_tl, tuple_tl, bg0, bg1, bg2, bg3, bg4, bg5, at0, at1, at2, at3, optR_some,
  List.map_cons, List.map_nil, List.replicate, List.append_nil, List.nil_append, List.cons_append, List.length_cons, List.length_nil, Nat.reduceAdd, Nat.reduceSub, Nat.reduceEqDiff, Nat.reduceLeDiff, if_true, if_false, reduceIte, List.getElem?_cons_zero, List.getElem?_cons_succ, List.set_cons_zero, List.set_cons_succ, Option.bind, Bool.not_true, Bool.not_false, Bool.false_eq_true, beq_self_eq_true, Bool.and_true, Bool.and_false, Bool.true_and, Bool.false_and, Bool.or_true, Bool.or_false, Bool.true_or, Bool.false_or, cst0, cst1, cst2, cst3, cst4, cst5, cst6, Int.reduceLE, Int.reduceLT, Int.reduceBEq, decide_true, decide_false])
/-! the words of a plan -/
section
variable {S S0 S1 S2 : Sto} {pl ed kr ho m n : Nat} {E : List Edg} {kn : List (Option Nat)} {hm : List (List Nat)} {od : List Nat} {ws : List Word}
variable {y0 y1 y2 y3 y4 y5 y6 y7 y8 y9 y10 y11 y12 : Option D}
theorem words_l0 (he : S[ed]? = some (.rod (E.map edD))) (hE : ∀ e ∈ E, e.2.2.length ≤ 2) : ∀ (l : List Nat) (a a' : Nat) (acc es : List Evt) (y11 : Option D), pw E a l = some (a', es) → (∀ s ∈ l, s < 6) → acc.length + 2 * l.length ≤ 10000 →
    ∃ z11, loopF (fun _ => True) (forB (gNm 11) b__law_words_l0) (l.map fun s => D.str (tx [s])) [y0, y1, some (.ref ed), y3, y4, y5, y6, y7, y8, some (evsD acc), some (iD a), y11, y12] S = .ok (.nx [y0, y1, some (.ref ed), y3, y4, y5, y6, y7, y8, some (evsD (acc ++ es)), some (iD a'), z11, y12]) S
  | [], a, a', acc, es, y11, h, hs, hl => by
    cases h
    exact ⟨y11, by rw [List.append_nil]; exact lp_nil⟩
  | s :: l, a, a', acc, es, y11, h, hs, hl => by
    rw [List.length_cons] at hl
    rw [pw_cons] at h
    cases hlk : lk E a s with
    | none => rw [hlk] at h; cases h
    | some p =>
      obtain ⟨a1, es1⟩ := p
      rw [hlk] at h
      obtain ⟨q, hq, e⟩ := Option.map_eq_some_iff.mp h
      cases e
      have h2 := hE _ (lk_mem hlk)
      simp only at h2
      have hs6 := hs s (List.mem_cons_self ..)
      have ia := index_alpha (S := S) hs6
      have tys : tyD (.str "abcdef") S = some "str" := rfl
      have ix := ix_edR (a := a) (s := s) he hlk
      have ad : addD (evsD acc) (evsD es1) S = .ok (.d (evsD (acc ++ es1))) S := by
        unfold evsD
        rw [addD_tup (by rw [List.length_map, List.length_map]; exact Nat.le_trans (show acc.length + es1.length ≤ 10010 by omega) (by decide)), List.map_append]
      have step : forB (gNm 11) b__law_words_l0 (.str (tx [s])) [y0, y1, some (.ref ed), y3, y4, y5, y6, y7, y8, some (evsD acc), some (iD a), y11, y12] S = .ok (.nx [y0, y1, some (.ref ed), y3, y4, y5, y6, y7, y8, some (evsD (acc ++ es1)), some (iD a1), some (.str (tx [s])), y12]) S := by
        unfold forB b__law_words_l0
        repeat first | simp only [eMeth, tys, ia, ix, ad] | walk_at "ev"
      obtain ⟨z11, g⟩ := words_l0 he hE l a1 q.1 (acc ++ es1) q.2 (some (.str (tx [s]))) hq (fun x hx => hs x (List.mem_cons_of_mem _ hx)) (by rw [List.length_append]; omega)
      rw [List.append_assoc] at g
      refine ⟨z11, ?_⟩
      rw [List.map_cons, lp_cons, step, bind_ok]
      exact g
/-- the word that ends with an edge -/
def wordOf (E : List Edg) (hm : List (List Nat)) (e : Edg) : Word := (hm.getD e.1.1 [] ++ [e.1.2], ((pw E 0 (hm.getD e.1.1 [] ++ [e.1.2])).map (·.2)).getD [])
def word3D (w : Word) : D := .tup [iD w.1.length, .str (tx w.1), evsD w.2]
theorem word_ok (p : PlanOk m n E kn hm) {e : Edg} (he : e ∈ E) (h0 : e.2.1 = 0) : pw E 0 (wordOf E hm e).1 = some (0, (wordOf E hm e).2) ∧ (wordOf E hm e).1.length ≤ 8 ∧ ∀ s ∈ (wordOf E hm e).1, s < m := by
  obtain ⟨⟨a, s⟩, b, es⟩ := e
  simp only at h0
  subst h0
  obtain ⟨h1, h2, _⟩ := p.ed a s 0 es he
  obtain ⟨fs, hf⟩ := p.home a h1
  have hw : pw E 0 (hm.getD a [] ++ [s]) = some (0, fs ++ es) := by
    rw [pw_app _ hf, pw_cons, p.lks he]
    simp [pw]
  have hb := p.hb a h1
  have n8 := p.n8
  unfold wordOf
  refine ⟨?_, ?_, ?_⟩
  · simp only [hw]
    rfl
  · rw [List.length_append, List.length_singleton]
    simp only
    omega
  · intro x hx
    rcases List.mem_append.mp hx with hx | hx
    · exact hb.2 x hx
    · rw [List.mem_singleton.mp hx]; exact h2
abbrev backE (e : Edg) : Bool := decide (e.2.1 = 0)
theorem keyList_ed (E : List Edg) : (E.map edD).map (·.1) = E.map fun e => D.tup [iD e.1.1, iD e.1.2] := by
  rw [List.map_map]; rfl
theorem words_l1 {q : Nat} {S0 : Sto} (p : PlanOk m n E kn hm) (he : S0[ed]? = some (.rod (E.map edD))) (hho : S0[ho]? = some (.lst (hm.map fun h => .str (tx h)))) (hq : S0.length ≤ q) : ∀ (r pre : List Edg) (S1 : Sto) (acc : List Word) (y6 y7 y8 y9 y10 y11 : Option D), E = pre ++ r → Ex S0 S1 → S1[q]? = some (.lst (acc.map word3D)) → acc.length + r.length ≤ 1000 →
    ∃ S2 z6 z7 z8 z9 z10 z11, loopF (fun S' => S'[ed]? = some (.rod (E.map edD))) (forB (gTp 2 (gsCons (gNm 6) (gsCons (gNm 7) gsNil))) b__law_words_l1) (r.map fun e => D.tup [iD e.1.1, iD e.1.2]) [y0, y1, some (.ref ed), y3, some (.ref ho), some (.ref q), y6, y7, y8, y9, y10, y11, y12] S1 =
      .ok (.nx [y0, y1, some (.ref ed), y3, some (.ref ho), some (.ref q), z6, z7, z8, z9, z10, z11, y12]) S2 ∧ Ex S0 S2 ∧ S2[q]? = some (.lst ((acc ++ (r.filter backE).map (wordOf E hm)).map word3D))
  | [], pre, S1, acc, y6, y7, y8, y9, y10, y11, hr, hx, h1, hl => ⟨S1, y6, y7, y8, y9, y10, y11, lp_nilC (hx.at_ he), hx, by rw [List.filter_nil, List.map_nil, List.append_nil]; exact h1⟩
  | e :: r, pre, S1, acc, y6, y7, y8, y9, y10, y11, hr, hx, h1, hl => by
    rw [List.length_cons] at hl
    have hmem : e ∈ E := by rw [hr]; simp
    have ql := (List.getElem?_eq_some_iff.mp h1).1
    have he1 := hx.at_ he
    have hho1 := hx.at_ hho
    have ep := p.ed e.1.1 e.1.2 e.2.1 e.2.2 hmem
    have ix := ix_edR (a := e.1.1) (s := e.1.2) (p := e.2) he1 (p.lks hmem)
    rw [List.map_cons, lp_consC he1]
    by_cases h0 : e.2.1 = 0
    · obtain ⟨g1, g2, g3⟩ := word_ok p hmem h0
      obtain ⟨W, hW⟩ : ∃ W, W = wordOf E hm e := ⟨_, rfl⟩
      rw [← hW] at g1 g2 g3
      have hW1 : W.1 = hm.getD e.1.1 [] ++ [e.1.2] := by rw [hW]; rfl
      have m6 := p.m6
      obtain ⟨z11, l0⟩ := words_l0 (y0 := y0) (y1 := y1) (y3 := y3) (y4 := some (.ref ho)) (y5 := some (.ref q)) (y6 := some (iD e.1.1)) (y7 := some (iD e.1.2)) (y8 := some (.str (tx W.1))) (y12 := y12) he1 p.ev2 W.1 0 0 [] W.2 y11 g1 (fun s hs => Nat.lt_of_lt_of_le (g3 s hs) m6) (by simp; omega)
      rw [List.nil_append] at l0
      have l0' : loopF (fun _ => True) (forB (gNm 11) b__law_words_l0) (W.1.map fun s => D.str (tx [s])) [y0, y1, some (.ref ed), y3, some (.ref ho), some (.ref q), some (iD e.1.1), some (iD e.1.2), some (.str (tx W.1)), some (.tup []), some (.int 0), y11, y12] S1 = _ := l0
      have ih := ix_hm (a := e.1.1) hho1 (by rw [p.hl]; exact ep.1)
      have ia := ix_alpha (S := S1) (s := e.1.2) (by omega)
      have ad : addD (.str (tx (hm.getD e.1.1 []))) (.str (tx [e.1.2])) S1 = .ok (.d (.str (tx W.1))) S1 := by
        have hlen : (hm.getD e.1.1 []).length + 1 ≤ 8 := by
          rw [hW1, List.length_append, List.length_singleton] at g2
          exact g2
        rw [addD_str (by rw [tx_len, tx_len]; exact Nat.le_trans hlen (by decide)), tx_app, hW1]
      have ln := lenT (S := S1) (l := W.1) (by omega)
      have ty := tyD_lst h1
      have ap := append_D (d := word3D W) h1 (Nat.lt_of_le_of_lt (show (acc.map word3D).length ≤ 1000 by rw [List.length_map]; omega) (by decide))
      have ap' : mAppend "list" (.ref q) [.tup [.int (W.1.length : Nat), .str (tx W.1), evsD W.2]] S1 = .ok (.d .non) (S1.set q (.lst ((acc ++ [W]).map word3D))) := by
        rw [List.map_append]
        exact ap
      have eq0 : ((e.2.1 : Int) == 0) = true := by rw [h0]; rfl
      have step : forB (gTp 2 (gsCons (gNm 6) (gsCons (gNm 7) gsNil))) b__law_words_l1 (.tup [iD e.1.1, iD e.1.2]) [y0, y1, some (.ref ed), y3, some (.ref ho), some (.ref q), y6, y7, y8, y9, y10, y11, y12] S1 = .ok (.nx [y0, y1, some (.ref ed), y3, some (.ref ho), some (.ref q), some (iD e.1.1), some (iD e.1.2), some (.str (tx W.1)), some (evsD W.2), some (iD 0), z11, y12]) (S1.set q (.lst ((acc ++ [W]).map word3D))) := by
        unfold forB b__law_words_l1
        repeat first | simp only [gTp, gsCons, gsNil, seqD_tup, ix, eq0, ih, ia, ad, tx_sigs, l0', ln, eMeth, ty, ap'] | walk_at "ev"
      obtain ⟨S2, z6, z7, z8, z9, z10, w11, q1, q2, q3⟩ := words_l1 p he hho hq r (pre ++ [e]) (S1.set q (.lst ((acc ++ [W]).map word3D))) (acc ++ [W]) (some (iD e.1.1)) (some (iD e.1.2)) (some (.str (tx W.1))) (some (evsD W.2)) (some (iD 0)) z11 (by rw [hr]; simp) (hx.put _ hq) (List.getElem?_set_self ql) (by rw [List.length_append, List.length_singleton]; omega)
      refine ⟨S2, z6, z7, z8, z9, z10, w11, ?_, q2, ?_⟩
      · rw [step, bind_ok]
        exact q1
      · rw [q3, List.filter_cons_of_pos (by exact decide_eq_true h0), List.map_cons, ← hW, List.append_assoc]
        rfl
    · have eq0 : ((e.2.1 : Int) == 0) = false := by simp; omega
      have step : forB (gTp 2 (gsCons (gNm 6) (gsCons (gNm 7) gsNil))) b__law_words_l1 (.tup [iD e.1.1, iD e.1.2]) [y0, y1, some (.ref ed), y3, some (.ref ho), some (.ref q), y6, y7, y8, y9, y10, y11, y12] S1 = .ok (.nx [y0, y1, some (.ref ed), y3, some (.ref ho), some (.ref q), some (iD e.1.1), some (iD e.1.2), y8, y9, y10, y11, y12]) S1 := by
        unfold forB b__law_words_l1
        repeat first | simp only [gTp, gsCons, gsNil, seqD_tup, ix, eq0] | walk_at "ev"
      obtain ⟨S2, z6, z7, z8, z9, z10, w11, q1, q2, q3⟩ := words_l1 p he hho hq r (pre ++ [e]) S1 acc (some (iD e.1.1)) (some (iD e.1.2)) y8 y9 y10 y11 (by rw [hr]; simp) hx h1 (by omega)
      refine ⟨S2, z6, z7, z8, z9, z10, w11, ?_, q2, ?_⟩
      · rw [step, bind_ok]
        exact q1
      · rw [q3, List.filter_cons_of_neg (by simp [backE, h0])]
theorem perm_of_map {α β : Type} (f : α → β) : ∀ {l : List β} {m : List β}, l.Perm m → ∀ L : List α, m = L.map f → ∃ L' : List α, l = L'.map f ∧ L'.Perm L := by
  intro l m h
  induction h with
  | nil =>
    intro L e
    exact ⟨[], rfl, by cases L with | nil => exact List.Perm.refl _ | cons _ _ => cases e⟩
  | cons x _ ih =>
    intro L e
    cases L with
    | nil => cases e
    | cons a L =>
      rw [List.map_cons] at e
      injection e with e1 e2
      obtain ⟨L', h1, h2⟩ := ih L e2
      exact ⟨a :: L', by rw [List.map_cons, ← h1, e1], h2.cons a⟩
  | swap x y l =>
    intro L e
    match L, e with
    | a :: b :: L, e =>
      rw [List.map_cons, List.map_cons] at e
      injection e with e1 e2
      injection e2 with e2 e3
      exact ⟨b :: a :: L, by rw [List.map_cons, List.map_cons, ← e1, ← e2, ← e3], List.Perm.swap a b L⟩
  | trans _ _ ih1 ih2 =>
    intro L e
    obtain ⟨L2, h1, h2⟩ := ih2 L e
    obtain ⟨L1, h3, h4⟩ := ih1 L2 h1
    exact ⟨L1, h3, h4.trans h2⟩
end

end K0
namespace K0
open PySem L2 PyProof.Rows Ev
local macro_rules | `(tactic| walk_at "ev") => `(tactic| simp only [sFor_eq, sSeq, sRet, sRetN, sIf, sAsg, sExpr, sNext, sPar, sPar3, sCont, sBreak, sNever, eAndM, eOrM, eNotM, eIf, eChain, eOp, eUn, eC, eV, eCall, eIsi, eIsiT, kitAnyB, eTup, eLst, eBi1, aNil, aCons, tVal, tTru, tNotM, tAndM, tOrM, asB, truB, blR, gNm, iAny, bind_ok, bind_no, force_d, force_tl, force_no, gcR_same, walk_tup, walk_tl, walk_str,
  kit_ii, kit_ib, kit_is, kit_it, kit_il, kit_ss, kit_si, kit_sb, kit_st, kit_sl, kit_tt, kit_ti, kit_tb, kit_ts, kit_tl, kit_ll, kit_li, kit_lb, kit_ls, kit_lt, kit_bb, kit_bi, kit_ni, kit_nb, kit_ns, kit_nt, kit_nl, ty_non, ty_bl, ty_int, ty_str, ty_tup,
  leD_int, geD_int, ltD_int, gtD_int, addD_int, subD_int, isD_non, isNotD_non, isD_bl, non_non, non_bl, non_int, non_str, non_tup, non_ref, eqD_int, neD_int, eqD_bl, ixd_tup, len_tup, len_tl, tuple_tl, bg0, bg1, bg2, bg3, bg4, bg5, at0, at1, at2, at3, optR_some,
  List.map_cons, List.map_nil, List.replicate, List.append_nil, List.nil_append, List.cons_append, List.length_cons, List.length_nil, Nat.reduceAdd, Nat.reduceSub, Nat.reduceEqDiff, Nat.reduceLeDiff, if_true, if_false, reduceIte, List.getElem?_cons_zero, List.getElem?_cons_succ, List.set_cons_zero, List.set_cons_succ, Option.bind, Bool.not_true, Bool.not_false, Bool.false_eq_true, beq_self_eq_true, Bool.and_true, Bool.and_false, Bool.true_and, Bool.false_and, Bool.or_true, Bool.or_false, Bool.true_or, Bool.false_or, cst0, cst1, cst2, cst3, cst4, cst5, cst6, Int.reduceLE, Int.reduceLT, Int.reduceBEq, decide_true, decide_false])
section
variable {S S0 S1 S2 : Sto} {pl ed kr ho m n : Nat} {E : List Edg} {kn : List (Option Nat)} {hm : List (List Nat)} {od : List Nat} {ws : List Word}
variable {y0 y1 y2 y3 y4 y5 y6 y7 y8 y9 y10 y11 y12 : Option D}
theorem tok_word (w : Word) : tupD (word3D w) = [.inl (w.1.length : Int), .inr (w.1.map (97 + ·))] := by
  show [Sum.inl (w.1.length : Int), Sum.inr ((w.1.map (97 + ·)).toArray).toList] = _
  simp
theorem map97_inj {a b : List Nat} (h : a.map (97 + ·) = b.map (97 + ·)) : a = b := by
  have := List.map_inj_right (f := fun x : Nat => 97 + x) (l := a) (l' := b) (fun x y (q : 97 + x = 97 + y) => by omega)
  exact this.mp h
theorem apart_word {w v : Word} (h : w.1 ≠ v.1) : apart (tupD (word3D w)) (tupD (word3D v)) = true := by
  rw [tok_word, tok_word]
  show (if (w.1.length : Int) = (v.1.length : Int) then (if w.1.map (97 + ·) = v.1.map (97 + ·) then apart [] [] else true) else true) = true
  split
  · rw [if_neg fun q => h (map97_inj q)]
  · rfl
theorem pwB_words : ∀ L : List Word, L.Pairwise (fun w v => w.1 ≠ v.1) → pwB (fun d e => apart (tupD d) (tupD e)) (L.map word3D) = true
  | [], _ => rfl
  | w :: L, h => by
    rw [List.pairwise_cons] at h
    rw [List.map_cons]
    show ((L.map word3D).all (fun e => apart (tupD (word3D w)) (tupD e)) && pwB _ (L.map word3D)) = true
    rw [pwB_words L h.2, Bool.and_true, List.all_eq_true]
    intro d hd
    obtain ⟨v, hv, rfl⟩ := List.mem_map.mp hd
    exact apart_word (h.1 v hv)
theorem word_inj (p : PlanOk m n E kn hm) {e e' : Edg} (he : e ∈ E) (he' : e' ∈ E) (h : (wordOf E hm e).1 = (wordOf E hm e').1) : e.1 = e'.1 := by
  have h1 := (p.ed e.1.1 e.1.2 e.2.1 e.2.2 he).1
  have h2 := (p.ed e'.1.1 e'.1.2 e'.2.1 e'.2.2 he').1
  obtain ⟨f1, g1⟩ := p.home _ h1
  obtain ⟨f2, g2⟩ := p.home _ h2
  have h' : hm.getD e.1.1 [] ++ [e.1.2] = hm.getD e'.1.1 [] ++ [e'.1.2] := h
  obtain ⟨q1, q2⟩ := List.append_inj' h' rfl
  rw [q1, g2] at g1
  have q3 := Option.some.inj g1
  exact Prod.ext (by have := congrArg Prod.fst q3; exact this.symm) (by simpa using q2)
theorem intsD_words {L : List Word} (h : L ≠ []) : intsD (L.map word3D) = none := by
  cases L with
  | nil => exact absurd rfl h
  | cons w L => rfl
theorem sort_words {q : Nat} {L : List Word} (h : S[q]? = some (.lst (L.map word3D))) (hL : L ≠ []) (hp : L.Pairwise (fun w v => w.1 ≠ v.1)) : ∃ L' : List Word, bSortX (.d (.ref q)) S = .ok (.tl (L'.map word3D)) S ∧ L'.Perm L := by
  have e1 : listX (.d (.ref q)) S = some (L.map word3D) := listAt_lst h
  have e2 : (L.map word3D).all isTup = true := by
    rw [List.all_eq_true]
    intro d hd
    obtain ⟨v, hv, rfl⟩ := List.mem_map.mp hd
    rfl
  obtain ⟨L', h1, h2⟩ := perm_of_map word3D (List.mergeSort_perm (L.map word3D) fun a b => !tltD b a) L rfl
  refine ⟨L', ?_, h2⟩
  unfold bSortX
  rw [e1]
  simp only [Option.bind, intsD_words hL]
  unfold bSortT
  rw [e1]
  simp only
  rw [if_pos ⟨e2, pwB_words L hp⟩, h1]
theorem words_c0 {q : Nat} {L' : List Word} (h : bSortX (.d (.ref q)) S = .ok (.tl (L'.map word3D)) S) (hl : L'.length ≤ 1000) : c__law_words_0 [y0, y1, y2, y3, y4, some (.ref q), y6, y7, y8, y9, y10, y11, y12] S = .ok (.tl (L'.map wordD)) S := by
  unfold c__law_words_0
  rw [eComp_eq]
  have w : iAny (eBi1 bSortX (eV 5)) [y0, y1, y2, y3, y4, some (.ref q), y6, y7, y8, y9, y10, y11, y12] S = .ok ⟨L'.map word3D, fun _ => True⟩ S := by
    show (bSortX (.d (.ref q)) S).bind (fun x S1 => walkX x S1) = _
    rw [h]
    rfl
  rw [w, bind_ok]
  have lc := lc_selM (chk := fun _ => True) (g := gTp 3 (gsCons (gNm 12) (gsCons (gNm 8) (gsCons (gNm 9) gsNil)))) (tt := tYesM) (te := eTup (aCons (eV 8) (aCons (eV 9) aNil))) (s0 := wipeE [y0, y1, y2, y3, y4, some (.ref q), y6, y7, y8, y9, y10, y11, y12] [12, 8, 9]) (S := S) word3D True.intro (fun _ => true) wordD L' [] (by simp; exact Nat.le_trans hl (by decide)) (fun c _ => ⟨_, rfl, rfl, fun _ => by
    simp only [wipeE, word3D]
    repeat first | walk_at "ev"
    rfl⟩)
  rw [lc, bind_ok, List.nil_append, show L'.filter (fun _ => true) = L' from List.filter_eq_self.mpr fun _ _ => rfl]
theorem cl_wordsD (k : Nat) (ws : List Word) : clDs k (ws.map wordD) = true := by
  induction ws with
  | nil => rfl
  | cons w ws ih =>
    rw [List.map_cons]
    have := cl_evsD k w.2
    simp only [clDs, wordD, clD, this, ih]
    rfl
theorem law_words_ok (pa : PlanAt S pl ed kr ho m E kn hm) (p : PlanOk m n E kn hm) (hl : E.length ≤ 100) : ∃ ws : List Word, f__law_words [.ref pl] S = .ok (.tl (ws.map wordD)) S ∧ WordsOk m E ws ∧ ws.length ≤ 100 ∧ ∀ a, a < n → ∃ w ∈ ws, ∃ s, w.1 = hm.getD a [] ++ [s] := by
  have edl := (List.getElem?_eq_some_iff.mp pa.ed).1
  obtain ⟨S0, hS0⟩ : ∃ S0 : Sto, S0 = S.set ed (.rod (E.map edD)) := ⟨_, rfl⟩
  have l0 : S0.length = S.length := by rw [hS0, List.length_set]
  have he : S0[ed]? = some (.rod (E.map edD)) := by rw [hS0]; exact List.getElem?_set_self edl
  have hoed : ho ≠ ed := fun q => by
    have h1 := pa.hm
    rw [q, pa.ed] at h1
    cases h1
  have hho : S0[ho]? = some (.lst (hm.map fun h => .str (tx h))) := by rw [hS0, List.getElem?_set_ne (Ne.symm hoed)]; exact pa.hm
  have e1 : (S ++ [O.lst []]).set ed (.rod (E.map edD)) = S0 ++ [.lst []] := by
    rw [List.set_append_left _ _ edl, hS0]
  obtain ⟨S2, z6, z7, z8, z9, z10, z11, q1, q2, q3⟩ := words_l1 (y0 := some (.ref pl)) (y1 := some (.int m)) (y3 := some (.ref kr)) (y12 := none) p he hho (show S0.length ≤ S.length by omega) E [] (S0 ++ [.lst []]) [] none none none none none none rfl ((Ex.refl S0).app _) (by rw [← l0]; exact getElem?_snoc _ _) (by simp; omega)
  rw [List.nil_append] at q3
  obtain ⟨L, hL⟩ : ∃ L, L = (E.filter backE).map (wordOf E hm) := ⟨_, rfl⟩
  rw [← hL] at q3
  have hmem : ∀ w ∈ L, ∃ e ∈ E, e.2.1 = 0 ∧ w = wordOf E hm e := fun w hw => by
    rw [hL] at hw
    obtain ⟨e, h1, h2⟩ := List.mem_map.mp hw
    obtain ⟨h3, h4⟩ := List.mem_filter.mp h1
    exact ⟨e, h3, of_decide_eq_true h4, h2.symm⟩
  have hbk : ∀ a, a < n → ∃ w ∈ L, ∃ s, w.1 = hm.getD a [] ++ [s] := fun a ha => by
    obtain ⟨s, es, h⟩ := p.back a ha
    refine ⟨wordOf E hm ((a, s), (0, es)), ?_, s, rfl⟩
    rw [hL]
    exact List.mem_map.mpr ⟨_, List.mem_filter.mpr ⟨h, decide_eq_true rfl⟩, rfl⟩
  have L0 : L ≠ [] := fun q => by
    obtain ⟨w, hw, _⟩ := hbk 0 p.n1
    rw [q] at hw
    cases hw
  have Ll : L.length ≤ 100 := by
    rw [hL, List.length_map]
    exact Nat.le_trans (List.length_filter_le _ _) hl
  have Lp : L.Pairwise (fun w v => w.1 ≠ v.1) := by
    rw [hL, List.pairwise_map]
    have nd : E.Pairwise fun e e' => e.1 ≠ e'.1 := List.pairwise_map.mp p.nd
    have nd2 := nd.sublist (List.filter_sublist (p := backE))
    refine nd2.imp_of_mem fun {a b} ha hb hab q => hab (word_inj p (List.mem_filter.mp ha).1 (List.mem_filter.mp hb).1 q)
  obtain ⟨S3, hS3⟩ : ∃ S3 : Sto, S3 = S2.set ed (.dct (E.map edD)) := ⟨_, rfl⟩
  have q3' : S3[S.length]? = some (.lst (L.map word3D)) := by
    rw [hS3, List.getElem?_set_ne (by omega)]; exact q3
  have x3 : Ex S S3 := by
    refine ⟨by rw [hS3, List.length_set, ← l0]; exact q2.len, fun i hi => ?_⟩
    by_cases q : i = ed
    · subst q
      rw [hS3, List.getElem?_set_self (Nat.lt_of_lt_of_le (by omega) q2.len), pa.ed]
    · rw [hS3, List.getElem?_set_ne (Ne.symm q), q2.keep i (by omega), hS0, List.getElem?_set_ne (Ne.symm q)]
  obtain ⟨ws, s1, s2⟩ := sort_words q3' L0 Lp
  have wl : ws.length ≤ 100 := by rw [s2.length_eq]; exact Ll
  have c0 := words_c0 (y0 := some (.ref pl)) (y1 := some (.int m)) (y2 := some (.ref ed)) (y3 := some (.ref kr)) (y4 := some (.ref ho)) (y6 := z6) (y7 := z7) (y8 := z8) (y9 := z9) (y10 := z10) (y11 := z11) (y12 := none) s1 (by omega)
  refine ⟨ws, ?_, ⟨fun w hw => ?_, fun w hw => ?_, fun w hw => ?_⟩, wl, fun a ha => ?_⟩
  · have gc := x3.gc (v := .tl (ws.map wordD)) (cl_wordsD _ ws)
    have sq := seqD_lst pa.pl
    have lock : sLock (eV 2) (sFor (iKeysM (eV 2)) (gTp 2 (gsCons (gNm 6) (gsCons (gNm 7) gsNil))) b__law_words_l1) [some (.ref pl), some (.int m), some (.ref ed), some (.ref kr), some (.ref ho), some (.ref S.length), none, none, none, none, none, none, none] (S ++ [.lst []]) = .ok (.nx [some (.ref pl), some (.int m), some (.ref ed), some (.ref kr), some (.ref ho), some (.ref S.length), z6, z7, z8, z9, z10, z11, none]) S3 := by
      have hd : (S ++ [O.lst []])[ed]? = some (edO E) := by rw [List.getElem?_append_left edl]; exact pa.ed
      have hr : (S0 ++ [O.lst []])[ed]? = some (.rod (E.map edD)) := by rw [List.getElem?_append_left (by omega)]; exact he
      have hk : iKeysM (eV 2) [some (.ref pl), some (.int m), some (.ref ed), some (.ref kr), some (.ref ho), some (.ref S.length), none, none, none, none, none, none, none] (S0 ++ [.lst []]) = .ok ⟨E.map fun e => D.tup [iD e.1.1, iD e.1.2], fun S' => S'[ed]? = some (.rod (E.map edD))⟩ (S0 ++ [.lst []]) := by
        show (match (S0 ++ [O.lst []])[ed]? with | some (O.rod kvs) => R.ok (⟨kvs.map (fun x : D × D => x.1), fun S' => S'[ed]? = some (O.rod kvs)⟩ : WK) (S0 ++ [O.lst []]) | _ => .no) = _
        rw [hr]
        simp only
        rw [keyList_ed]
      unfold sLock
      have ev : eV 2 [some (.ref pl), some (.int m), some (.ref ed), some (.ref kr), some (.ref ho), some (.ref S.length), none, none, none, none, none, none, none] (S ++ [.lst []]) = .ok (.d (.ref ed)) (S ++ [.lst []]) := rfl
      rw [ev]
      simp only [hd, e1, sFor_eq, hk, bind_ok, q1]
      rw [guardS_pos (q2.at_ he), ← hS3]
    unfold f__law_words b__law_words runF
    repeat first | simp only [gTp, gsCons, gsNil, sq] | simp only [lock, c0, gc] | walk_at "ev"
  · obtain ⟨e, h1, h2, rfl⟩ := hmem w (s2.mem_iff.mp hw)
    exact (word_ok p h1 h2).1
  · obtain ⟨e, h1, h2, rfl⟩ := hmem w (s2.mem_iff.mp hw)
    exact (word_ok p h1 h2).2.1
  · obtain ⟨e, h1, h2, rfl⟩ := hmem w (s2.mem_iff.mp hw)
    exact (word_ok p h1 h2).2.2
  · obtain ⟨w, h1, h2⟩ := hbk a ha
    exact ⟨w, s2.mem_iff.mpr h1, h2⟩
end

end K0
namespace K0
open PySem L2 PyProof.Rows Ev
local macro_rules | `(tactic| walk_at "ev") => `(tactic| simp only [sFor_eq, sSeq, sRet, sRetN, sIf, sAsg, sExpr, sNext, sPar, sPar3, sCont, sBreak, sNever, eAndM, eOrM, eNotM, eIf, eChain, eOp, eUn, eC, eV, eCall, eIsi, eIsiT, kitAnyB, eTup, eLst, eBi1, aNil, aCons, tVal, tTru, tNotM, tAndM, tOrM, asB, truB, blR, gNm, iAny, bind_ok, bind_no, force_d, force_tl, force_no, gcR_same, walk_tup, walk_tl, walk_str,
  kit_ii, kit_ib, kit_is, kit_it, kit_il, kit_ss, kit_si, kit_sb, kit_st, kit_sl, kit_tt, kit_ti, kit_tb, kit_ts, kit_tl, kit_ll, kit_li, kit_lb, kit_ls, kit_lt, kit_bb, kit_bi, kit_ni, kit_nb, kit_ns, kit_nt, kit_nl, ty_non, ty_bl, ty_int, ty_str, ty_tup,
  leD_int, geD_int, ltD_int, gtD_int, addD_int, subD_int, isD_non, isNotD_non, isD_bl, non_non, non_bl, non_int, non_str, non_tup, non_ref, eqD_int, neD_int, eqD_bl, ixd_tup, len_tup, len_tl, tuple_tl, bg0, bg1, bg2, bg3, bg4, bg5, at0, at1, at2, at3, optR_some,
  List.map_cons, List.map_nil, List.replicate, List.append_nil, List.nil_append, List.cons_append, List.length_cons, List.length_nil, Nat.reduceAdd, Nat.reduceSub, Nat.reduceEqDiff, Nat.reduceLeDiff, if_true, if_false, reduceIte, List.getElem?_cons_zero, List.getElem?_cons_succ, List.set_cons_zero, List.set_cons_succ, Option.bind, Bool.not_true, Bool.not_false, Bool.false_eq_true, beq_self_eq_true, Bool.and_true, Bool.and_false, Bool.true_and, Bool.false_and, Bool.or_true, Bool.or_false, Bool.true_or, Bool.false_or, cst0, cst1, cst2, cst3, cst4, cst5, cst6, Int.reduceLE, Int.reduceLT, Int.reduceBEq, decide_true, decide_false])
/-! from each inner state -/
section
variable {S S0 S1 S2 : Sto} {b x pl ed kr ho wr op m n : Nat} {rs : List (List Ent)} {md : Nat → Option Nat} {E : List Edg} {kn : List (Option Nat)} {hm : List (List Nat)} {od : List Nat} {ws : List Word}
variable {y0 y1 y2 y3 y4 y5 y6 y7 y8 y9 y10 y11 y12 y13 y14 : Option D}
/-- all that stands in the store while a reader is judged -/
structure Jd (S : Sto) (b pl ed kr ho op x m n : Nat) (E : List Edg) (kn : List (Option Nat)) (hm : List (List Nat)) (od : List Nat) (rs : List (List Ent)) (md : Nat → Option Nat) : Prop where
  pa : PlanAt S pl ed kr ho m E kn hm
  aop : S[op]? = some (iL od)
  ax : S[x]? = some (readerO m rs md)
  ok : PlanOk m n E kn hm
  ao : OrdOk n od
  ar : RowsOf m n E od rs
  am : ∀ a, a < n → md (od.getD a 0) = kn.getD a none
  el : E.length ≤ 100
  npl : b < pl
  ned : b < ed
  nkr : b < kr
  nho : b < ho
  nop : b < op
  nx : b < x
theorem Jd.fr {k : Nat} (j : Jd S b pl ed kr ho op x m n E kn hm od rs md) (f : Fr b S S1 k) : Jd S1 b pl ed kr ho op x m n E kn hm od rs md :=
  ⟨⟨f.at_ j.pa.pl (Nat.ne_of_gt j.npl), f.at_ j.pa.ed (Nat.ne_of_gt j.ned), f.at_ j.pa.kn (Nat.ne_of_gt j.nkr), f.at_ j.pa.hm (Nat.ne_of_gt j.nho)⟩, f.at_ j.aop (Nat.ne_of_gt j.nop), f.at_ j.ax (Nat.ne_of_gt j.nx), j.ok, j.ao, j.ar, j.am, j.el, j.npl, j.ned, j.nkr, j.nho, j.nop, j.nx⟩
theorem tx_inj {a c : List Nat} (h : tx a = tx c) : a = c := by
  have : (tx a).cps.toList = (tx c).cps.toList := by rw [h]
  have e : ∀ l : List Nat, (tx l).cps.toList = l.map (97 + ·) := fun l => by
    show ((l.map (97 + ·)).toArray).toList = _
    simp
  rw [e, e] at this
  exact map97_inj this
theorem slT_to {l : List Nat} {k : Nat} (hl : l.length ≤ 1000) : slD (.str (tx l)) none (some (k : Int)) S = .ok (.d (.str (tx (l.take k)))) S := by
  have e : cutS (tx l) none (some (k : Int)) = tx (l.take k) := by
    have h1 : (tx l).cps.toList = l.map (97 + ·) := by
      show ((l.map (97 + ·)).toArray).toList = _
      simp
    have h2 : (tx l).length = (l.map (97 + ·)).length := by rw [tx_len, List.length_map]
    unfold cutS
    rw [h1, h2]
    have := cutL_to (l.map (97 + ·)) k
    unfold cutL at this
    rw [this, ← List.map_take]
    rfl
  unfold slD
  simp only
  rw [if_pos (by rw [tx_len]; exact Nat.le_trans hl (by decide)), e]
theorem slT_from {l : List Nat} {k : Nat} (hl : l.length ≤ 1000) : slD (.str (tx l)) (some (k : Int)) none S = .ok (.d (.str (tx (l.drop k)))) S := by
  have e : cutS (tx l) (some (k : Int)) none = tx (l.drop k) := by
    have h1 : (tx l).cps.toList = l.map (97 + ·) := by
      show ((l.map (97 + ·)).toArray).toList = _
      simp
    have h2 : (tx l).length = (l.map (97 + ·)).length := by rw [tx_len, List.length_map]
    unfold cutS
    rw [h1, h2]
    have := cutL_from (l.map (97 + ·)) k
    unfold cutL at this
    rw [this, ← List.map_drop]
    rfl
  unfold slD
  simp only
  rw [if_pos (by rw [tx_len]; exact Nat.le_trans hl (by decide)), e]
theorem slE_from {es : List Evt} {k : Nat} : slD (evsD es) (some (k : Int)) none S = .ok (.d (evsD (es.drop k))) S := by
  unfold evsD slD
  simp only
  rw [cutL_from, List.map_drop]
/-- begins with -/
def preB (h : List Nat) (w : Word) : Bool := tx (w.1.take h.length) == tx h
theorem preB_of {h : List Nat} {w : Word} : preB h w = true ↔ w.1.take h.length = h := by
  unfold preB
  constructor
  · intro q
    exact tx_inj (eq_of_beq q)
  · intro q
    rw [q]
    exact beq_self_eq_true _
theorem inner_c0 {h : List Nat} (hwr : S[wr]? = some (.lst (ws.map wordD))) (hl : ws.length ≤ 100) (h8 : h.length ≤ 8) (hs : ∀ s ∈ h, s < 6) (w : WordsOk m E ws) (m6 : m ≤ 6) : c__law_inner_right_0 [y0, y1, y2, some (.ref wr), y4, y5, y6, some (.str (tx h)), y8, y9, y10, y11, y12, y13, y14] S = .ok (.tl ((ws.filter (preB h)).map wordD)) S := by
  unfold c__law_inner_right_0
  rw [eComp_eq]
  have wk : iAny (eV 3) [y0, y1, y2, some (.ref wr), y4, y5, y6, some (.str (tx h)), y8, y9, y10, y11, y12, y13, y14] S = .ok ⟨ws.map wordD, fun S' => Ev.listAt S' wr = some (ws.map wordD)⟩ S := walk_lst hwr
  rw [wk, bind_ok]
  have lnh := lenT (S := S) (l := h) (by omega)
  have lc := lc_selM (chk := fun S' => Ev.listAt S' wr = some (ws.map wordD)) (g := gNm 8) (tt := tVal (eOp eqD (eSl (eOp ixD (eV 8) (eC (.int 0))) none (some (eBi1 bLen (eV 7)))) (eV 7))) (te := eV 8) (s0 := wipeE [y0, y1, y2, some (.ref wr), y4, y5, y6, some (.str (tx h)), y8, y9, y10, y11, y12, y13, y14] [8]) (S := S) wordD (listAt_lst hwr) (preB h) wordD ws [] (by simp; exact Nat.le_trans hl (by decide)) (fun v hv => ⟨_, rfl, by
    have sl := slT_to (S := S) (l := v.1) (k := h.length) (by have := w.ln v hv; omega)
    have eq : eqD (.str (tx (v.1.take h.length))) (.str (tx h)) S = .ok (.d (.bl (preB h v))) S := str_eq (strOk_tx fun s q => by
      have := w.sg v hv s (List.mem_of_mem_take q)
      omega) (strOk_tx fun s q => by have := hs s q; omega)
    simp only [wipeE, wordD]
    repeat first | simp only [eSl, ePart, lnh, sl, eq] | walk_at "ev", fun _ => by
    simp only [wipeE]
    repeat first | walk_at "ev"⟩)
  simp only
  rw [lc, bind_ok, List.nil_append]
theorem pick_word {L : List Word} {k : Nat} {p : Nat} (hB : Bs b S k) (hp : S[p]? = some (.lst (L.map wordD))) (hbp : p ≠ b) (hk : k < LIM) (h0 : L ≠ []) (h1 : L.length ≤ 1000) : ∃ (w : Word) (S1 : Sto), w ∈ L ∧ f__law_pick [.ref b, .ref p] S = .ok (.d (wordD w)) S1 ∧ Bm b S S1 (k + 1) := by
  obtain ⟨t, d, S1, g1, g2, g3⟩ := pick_B hB hp hbp hk (by simpa using h0) (by simpa using h1) (cl_wordsD _ L)
  rw [List.getElem?_map] at g1
  obtain ⟨w, q1, rfl⟩ := Option.map_eq_some_iff.mp g1
  exact ⟨w, S1, List.mem_of_getElem? q1, g2, g3⟩
theorem inner_turn {a k : Nat} {nm : Bool} (j : Jd S b pl ed kr ho op x m n E kn hm od rs md) (hB : Bs b S k) (hk : k + 10 < LIM) (hwr : S[wr]? = some (.lst (ws.map wordD))) (nwr : b < wr) (w : WordsOk m E ws) (hl : ws.length ≤ 100) (hw : ∀ a, a < n → ∃ w ∈ ws, ∃ s, w.1 = hm.getD a [] ++ [s]) (ha : a < n) :
    ∃ (S2 : Sto) (z7 z8 z9 z10 z11 z12 z13 z14 : Option D), forB (gNm 6) b__law_inner_right_l0 (iD a) [some (.ref b), some (.ref pl), some (.ref x), some (.ref wr), some (.ref op), some (.bl nm), y6, y7, y8, y9, y10, y11, y12, y13, y14] S = .ok (.nx [some (.ref b), some (.ref pl), some (.ref x), some (.ref wr), some (.ref op), some (.bl !nm), some (iD a), z7, z8, z9, z10, z11, z12, z13, z14]) S2 ∧ Fr b S S2 (k + 10) := by
  have p := j.ok
  have m6 := p.m6
  have n8 := p.n8
  have i3 : ixD (.ref pl) (.int 3) S = .ok (.d (.ref ho)) S := ixB j.pa.pl 3 rfl
  have ih := ix_hm (a := a) j.pa.hm (by rw [p.hl]; exact ha)
  obtain ⟨h, hh⟩ : ∃ h, h = hm.getD a [] := ⟨_, rfl⟩
  have hb := p.hb a ha
  obtain ⟨fs, hfs⟩ := p.home a ha
  rw [← hh] at ih hb hfs
  have h8 : h.length ≤ 8 := by omega
  have hs6 : ∀ s ∈ h, s < 6 := fun s q => Nat.lt_of_lt_of_le (hb.2 s q) m6
  have c0 := inner_c0 (y0 := some (.ref b)) (y1 := some (.ref pl)) (y2 := some (.ref x)) (y4 := some (.ref op)) (y5 := some (.bl nm)) (y6 := some (iD a)) (y8 := y8) (y9 := y9) (y10 := y10) (y11 := y11) (y12 := y12) (y13 := y13) (y14 := y14) hwr hl h8 hs6 w m6
  obtain ⟨L, hL⟩ : ∃ L, L = ws.filter (preB h) := ⟨_, rfl⟩
  rw [← hL] at c0
  have L0 : L ≠ [] := fun q => by
    obtain ⟨v, hv, s, hv2⟩ := hw a ha
    have : v ∈ L := by
      rw [hL]
      refine List.mem_filter.mpr ⟨hv, preB_of.mpr ?_⟩
      rw [hv2, ← hh]
      simp
    rw [q] at this
    cases this
  have Ll : L.length ≤ 100 := by
    rw [hL]
    exact Nat.le_trans (List.length_filter_le _ _) hl
  obtain ⟨S1, hS1⟩ : ∃ S1, S1 = S ++ [O.lst (L.map wordD)] := ⟨_, rfl⟩
  have F1 : Fr b S S1 k := by rw [hS1]; exact (Fr.refl hB).app _
  have g1 : S1[S.length]? = some (.lst (L.map wordD)) := by rw [hS1]; exact getElem?_snoc _ _
  have bl := hB.lt
  obtain ⟨w1, S2, hw1, e2, B2⟩ := pick_word F1.box g1 (by omega) (by omega) L0 (by omega)
  have F2 := F1.trans B2.fr
  obtain ⟨w2, S3, hw2, e3, B3⟩ := pick_word F2.box (F2.at_ hwr (by omega)) (by omega) (by omega) (by
    obtain ⟨v, hv, _⟩ := hw a ha
    intro q
    rw [q] at hv
    cases hv) (by omega)
  have F3 := F2.trans B3.fr
  have j3 := j.fr F3
  have hb3 := law_behind_ok j3.pa p.ev2 (l := h) (by omega) hs6
  have hbh : bhD E h = .tup [iD a, evsD fs] := by unfold bhD; rw [hfs]
  rw [hbh] at hb3
  have hwm := hL ▸ hw1
  obtain ⟨hw1m, hpre⟩ := List.mem_filter.mp hwm
  have htk := preB_of.mp hpre
  have hsplit : w1.1 = h ++ w1.1.drop h.length := by
    have := List.take_append_drop h.length w1.1
    rw [htk] at this
    exact this.symm
  obtain ⟨t, ht⟩ : ∃ t, t = w1.1.drop h.length := ⟨_, rfl⟩
  rw [← ht] at hsplit
  have pw1 := w.pw w1 hw1m
  have pw2 := w.pw w2 hw2
  rw [hsplit, pw_app h hfs] at pw1
  obtain ⟨q, hq, hqe⟩ := Option.map_eq_some_iff.mp pw1
  obtain ⟨q1, gs⟩ := q
  simp only [Prod.mk.injEq] at hqe
  obtain ⟨rfl, hgs⟩ := hqe
  have hdrop : w1.2.drop fs.length = gs := by rw [← hgs]; simp
  have run1 : pw E a (t ++ w2.1) = some (0, gs ++ w2.2) := by
    rw [pw_app t hq, pw2]
    rfl
  have l1 := w.ln w1 hw1m
  have l2 := w.ln w2 hw2
  have tl : t.length ≤ 8 := by rw [ht, List.length_drop]; omega
  have tsg : ∀ s ∈ t ++ w2.1, s < m := fun s hs => by
    rcases List.mem_append.mp hs with hs | hs
    · exact w.sg w1 hw1m s (by rw [ht] at hs; exact List.mem_of_mem_drop hs)
    · exact w.sg w2 hw2 s hs
  have rr := j.ar.run p (t ++ w2.1) ha tsg
  rw [run1] at rr
  have hz := j.ao.z
  have hr := j.ar.rowsOk p j.ao
  have rf := read_from_ok j3.ax hr (l := t ++ w2.1) (k := od.getD a 0) (by rw [j.ar.len]; exact j.ao.ltn ha) tsg (by rw [List.length_append]; omega)
  rw [rr] at rf
  have rf' : f_read_from [.ref x, .int (od.getD a 0 : Nat), .str (tx (t ++ w2.1))] S3 = .ok (.d (.tup [.int 0, evsD (gs ++ w2.2)])) S3 := by
    rw [rf]
    show R.ok (XR.d (.tup [.int ((od.getD 0 0 : Nat) : Int), evsD (gs ++ w2.2)])) S3 = _
    rw [hz]
    rfl
  obtain ⟨_, _, heo⟩ := p.pwOk _ ha run1
  have gl := pw_len p.ev2 _ run1
  have gl2 : (t ++ w2.1).length = t.length + w2.1.length := List.length_append
  obtain ⟨oe, de⟩ := ok_evs m6 heo
  have se : smD (evsD (gs ++ w2.2)) = true := sm_evs (by omega)
  have sm := law_same_ok 12 (.tup [.int 0, evsD (gs ++ w2.2)]) S3 (by simp [okD, okDs, oe]) (by simp [smD, smDs, se]) (by simp [dpD, dpDs]; omega)
  have lnh := fun T : Sto => lenT (S := T) (l := h) (by omega)
  have sl1 := fun T : Sto => slT_from (S := T) (l := w1.1) (k := h.length) (by omega)
  have ad : ∀ T : Sto, addD (.str (tx (w1.1.drop h.length))) (.str (tx w2.1)) T = .ok (.d (.str (tx (t ++ w2.1)))) T := fun T => by
    rw [← ht, addD_str (by rw [tx_len, tx_len]; exact Nat.le_trans (show t.length + w2.1.length ≤ 100 by omega) (by decide)), tx_app]
  have lne : ∀ T : Sto, bLen (.d (evsD fs)) T = .ok (.d (.int (fs.length : Nat))) T := fun T => by
    unfold evsD
    rw [len_tup, List.length_map]
  have sl2 := fun T : Sto => slE_from (S := T) (es := w1.2) (k := fs.length)
  have adE : ∀ T : Sto, addD (evsD (w1.2.drop fs.length)) (evsD w2.2) T = .ok (.d (evsD (gs ++ w2.2))) T := fun T => by
    rw [hdrop]
    unfold evsD
    have w16 := w.ev p.ev2 w2 hw2
    rw [addD_tup (by rw [List.length_map, List.length_map, ← List.length_append]; exact Nat.le_trans (show (gs ++ w2.2).length ≤ 1000 by omega) (by decide)), List.map_append]
  have ix := ixL (k := od.getD a 0) j3.aop (i := a) (j.ao.at_ ha)
  refine ⟨S3, some (.str (tx h)), some (wordD w1), some (.ref S.length), some (wordD w2), some (evsD fs), some (.str (tx (t ++ w2.1))), some (.tup [.int 0, evsD (gs ++ w2.2)]), some (.tup [.int 0, evsD (gs ++ w2.2)]), ?_, F3.mono (by omega)⟩
  simp only [wordD] at e2 e3 ⊢
  unfold forB b__law_inner_right_l0
  cases nm <;> repeat first | simp only [i3, ih, c0, ← hS1, e2, e3, hb3, eSl, ePart, lnh, sl1, ad, lne, sl2, adE, eCallK, perm3, ix, rf', sm] | walk_at "ev"
theorem inner_loop (w : WordsOk m E ws) (hl : ws.length ≤ 100) (hw : ∀ a, a < n → ∃ w ∈ ws, ∃ s, w.1 = hm.getD a [] ++ [s]) (nwr : b < wr) : ∀ (r a k : Nat) (S : Sto) (nm : Bool) (y6 y7 y8 y9 y10 y11 y12 y13 y14 : Option D), a + r = n → Jd S b pl ed kr ho op x m n E kn hm od rs md → Bs b S k → S[wr]? = some (.lst (ws.map wordD)) → k + 10 * r + 10 < LIM →
    ∃ (S2 : Sto) (nm' : Bool) (z6 z7 z8 z9 z10 z11 z12 z13 z14 : Option D), loopF (fun _ => True) (forB (gNm 6) b__law_inner_right_l0) ((List.range' a r).map iD) [some (.ref b), some (.ref pl), some (.ref x), some (.ref wr), some (.ref op), some (.bl nm), y6, y7, y8, y9, y10, y11, y12, y13, y14] S = .ok (.nx [some (.ref b), some (.ref pl), some (.ref x), some (.ref wr), some (.ref op), some (.bl nm'), z6, z7, z8, z9, z10, z11, z12, z13, z14]) S2 ∧ Fr b S S2 (k + 10 * r)
  | 0, a, k, S, nm, y6, y7, y8, y9, y10, y11, y12, y13, y14, ha, j, hB, h, hk => ⟨S, nm, y6, y7, y8, y9, y10, y11, y12, y13, y14, lp_nil, Fr.refl hB⟩
  | r + 1, a, k, S, nm, y6, y7, y8, y9, y10, y11, y12, y13, y14, ha, j, hB, h, hk => by
    obtain ⟨S1, z7, z8, z9, z10, z11, z12, z13, z14, e, F⟩ := inner_turn (y6 := y6) (y7 := y7) (y8 := y8) (y9 := y9) (y10 := y10) (y11 := y11) (y12 := y12) (y13 := y13) (y14 := y14) (nm := nm) (a := a) j hB (by omega) h nwr w hl hw (by omega)
    obtain ⟨S2, nm', x6, x7, x8, x9, x10, x11, x12, x13, x14, e2, F2⟩ := inner_loop w hl hw nwr r (a + 1) (k + 10) S1 (!nm) (some (iD a)) z7 z8 z9 z10 z11 z12 z13 z14 (by omega) (j.fr F) F.box (F.at_ h (by omega)) (by omega)
    refine ⟨S2, nm', x6, x7, x8, x9, x10, x11, x12, x13, x14, ?_, (F.trans F2).mono (by omega)⟩
    rw [List.range'_succ, List.map_cons, lp_cons, e, bind_ok]
    exact e2
theorem law_inner_right_ok {k : Nat} {nm : Bool} (j : Jd S b pl ed kr ho op x m n E kn hm od rs md) (hB : Bs b S k) (hk : k + 100 < LIM) (hwr : S[wr]? = some (.lst (ws.map wordD))) (nwr : b < wr) (w : WordsOk m E ws) (hl : ws.length ≤ 100) (hw : ∀ a, a < n → ∃ w ∈ ws, ∃ s, w.1 = hm.getD a [] ++ [s]) :
    ∃ S2, f__law_inner_right [.ref b, .ref pl, .ref x, .ref wr, .ref op, .bl nm] S = .ok (.d (.bl true)) S2 ∧ Bm b S S2 (k + 100) := by
  have p := j.ok
  have n8 := p.n8
  have n1 := p.n1
  obtain ⟨S2, nm', z6, z7, z8, z9, z10, z11, z12, z13, z14, e, F⟩ := inner_loop w hl hw nwr (n - 1) 1 k S nm none none none none none none none none none (by omega) j hB hwr (by omega)
  have ln := len_lst j.aop
  rw [List.length_map, j.ao.len] at ln
  have r1 := range2_nat (mm := eC (.int 1)) (mm' := eBi1 bLen (eV 4)) (s := [some (.ref b), some (.ref pl), some (.ref x), some (.ref wr), some (.ref op), some (.bl nm), none, none, none, none, none, none, none, none, none]) (S := S) (S1 := S) (S2 := S) (a := 1) (c := n) rfl ln (by omega) (by omega)
  obtain ⟨S3, g, B⟩ := F.gc (v := .d (.bl true)) hB.lt rfl
  refine ⟨S3, ?_, B.mono (by omega)⟩
  unfold f__law_inner_right b__law_inner_right runF
  repeat first | simp only [r1, e, g] | walk_at "ev"
end

end K0
namespace K0
open PySem L2 PyProof.Rows Ev
local macro_rules | `(tactic| walk_at "ev") => `(tactic| simp only [sFor_eq, sSeq, sRet, sRetN, sIf, sAsg, sExpr, sNext, sPar, sPar3, sCont, sBreak, sNever, eAndM, eOrM, eNotM, eIf, eChain, eOp, eUn, eC, eV, eCall, eIsi, eIsiT, kitAnyB, eTup, eLst, eBi1, aNil, aCons, tVal, tTru, tNotM, tAndM, tOrM, asB, truB, blR, gNm, iAny, bind_ok, bind_no, force_d, force_tl, force_no, gcR_same, walk_tup, walk_tl, walk_str,
  kit_ii, kit_ib, kit_is, kit_it, kit_il, kit_ss, kit_si, kit_sb, kit_st, kit_sl, kit_tt, kit_ti, kit_tb, kit_ts, kit_tl, kit_ll, kit_li, kit_lb, kit_ls, kit_lt, kit_bb, kit_bi, kit_ni, kit_nb, kit_ns, kit_nt, kit_nl, ty_non, ty_bl, ty_int, ty_str, ty_tup,
  leD_int, geD_int, ltD_int, gtD_int, addD_int, subD_int, isD_non, isNotD_non, isD_bl, non_non, non_bl, non_int, non_str, non_tup, non_ref, eqD_int, neD_int, eqD_bl, ixd_tup, len_tup, len_tl, tuple_tl, bg0, bg1, bg2, bg3, bg4, bg5, at0, at1, at2, at3, optR_some,
  List.map_cons, List.map_nil, List.replicate, List.append_nil, List.nil_append, List.cons_append, List.length_cons, List.length_nil, Nat.reduceAdd, Nat.reduceSub, Nat.reduceEqDiff, Nat.reduceLeDiff, if_true, if_false, reduceIte, List.getElem?_cons_zero, List.getElem?_cons_succ, List.set_cons_zero, List.set_cons_succ, Option.bind, Bool.not_true, Bool.not_false, Bool.false_eq_true, beq_self_eq_true, Bool.and_true, Bool.and_false, Bool.true_and, Bool.false_and, Bool.or_true, Bool.or_false, Bool.true_or, Bool.false_or, cst0, cst1, cst2, cst3, cst4, cst5, cst6, Int.reduceLE, Int.reduceLT, Int.reduceBEq, decide_true, decide_false])
/-! a reader is judged -/
section
variable {S S0 S1 S2 : Sto} {b x pl ed kr ho wr op m n : Nat} {rs : List (List Ent)} {md : Nat → Option Nat} {E : List Edg} {kn : List (Option Nat)} {hm : List (List Nat)} {od : List Nat} {ws : List Word}
variable {y0 y1 y2 y3 y4 y5 y6 y7 y8 y9 y10 y11 y12 y13 y14 y15 : Option D}
theorem lc_one {chk : Sto → Prop} {g : MG} {te : M} {s0 s1 : Ev.Env} {d y : D} {ds acc : List D} {S S2 : Sto} (hc : chk S) (e1 : g d s0 S = .ok s1 S) (e2 : force (te s1 S) = .ok y S2) (ha : acc.length < BIG) : loopC chk g tYesM te s0 (d :: ds) acc S = loopC chk g tYesM te s0 ds (acc ++ [y]) S2 := by
  show guardS (chk S) ((g d s0 S).bind fun s1 S1 => (tYesM s1 S1).bind fun b' S2 => if b' = true then (force (te s1 S2)).bind fun y S3 => if acc.length < BIG then loopC chk g tYesM te s0 ds (acc ++ [y]) S3 else .no else loopC chk g tYesM te s0 ds acc S2) = _
  rw [guardS_pos hc, e1, bind_ok]
  show (if true = true then (force (te s1 S)).bind fun y S3 => if acc.length < BIG then loopC chk g tYesM te s0 ds (acc ++ [y]) S3 else .no else loopC chk g tYesM te s0 ds acc S) = _
  rw [if_pos rfl, e2, bind_ok, if_pos ha]
theorem picks_loop (h0 : ws ≠ []) (hl : ws.length ≤ 100) (nwr : wr ≠ b) : ∀ (l : List Nat) (acc : List D) (k : Nat) (S1 : Sto), Bs b S1 k → S1[wr]? = some (.lst (ws.map wordD)) → k + l.length < LIM → acc.length + l.length ≤ 1000 →
    ∃ (P : List Word) (S2 : Sto), loopC (fun _ => True) (gNm 15) tYesM (eCall f__law_pick (aCons (eV 0) (aCons (eV 5) aNil))) [some (.ref b), y1, y2, y3, y4, some (.ref wr), y6, y7, y8, y9, y10, y11, y12, y13, y14, none] (l.map iD) acc S1 = .ok (acc ++ P.map wordD) S2 ∧ Bm b S1 S2 (k + l.length) ∧ (∀ w ∈ P, w ∈ ws) ∧ P.length = l.length
  | [], acc, k, S1, hB, hw, hk, ha => ⟨[], S1, by
      show guardS True (.ok acc S1) = _
      rw [guardS_pos True.intro, List.map_nil, List.append_nil], Bm.refl hB, fun w h => (nomatch h), rfl⟩
  | i :: l, acc, k, S1, hB, hw, hk, ha => by
    rw [List.length_cons] at hk ha
    obtain ⟨w, S3, hw1, e, B⟩ := pick_word hB hw nwr (by omega) h0 (by omega)
    obtain ⟨P, S2, g1, g2, g3, g4⟩ := picks_loop h0 hl nwr l (acc ++ [wordD w]) (k + 1) S3 B.box (B.at_ hw nwr) (by omega) (by rw [List.length_append, List.length_singleton]; omega)
    refine ⟨w :: P, S2, ?_, (B.trans g2).mono (by rw [List.length_cons]; omega), fun v hv => ?_, by rw [List.length_cons, List.length_cons, g4]⟩
    · rw [List.map_cons]
      have ev : force (eCall f__law_pick (aCons (eV 0) (aCons (eV 5) aNil)) [some (.ref b), y1, y2, y3, y4, some (.ref wr), y6, y7, y8, y9, y10, y11, y12, y13, y14, some (iD i)] S1) = .ok (wordD w) S3 := by
        repeat first | simp only [e] | walk_at "ev"
      rw [lc_one (S2 := S3) (y := wordD w) True.intro rfl ev (Nat.lt_of_lt_of_le (show acc.length < 1001 by omega) (by decide)), g1, List.append_assoc, List.map_cons]
      rfl
    · rcases List.mem_cons.mp hv with rfl | hv
      · exact hw1
      · exact g3 v hv
def rstD (E : List Edg) (l : List Nat) : D := .tup [.str (tx l), bhD E l]
theorem right_l1 {q : Nat} (w : WordsOk m E ws) (hq : S0.length ≤ q) (hb : b < S0.length) : ∀ (P : List Word) (k : Nat) (S1 : Sto) (R : List (List Nat)) (y10 y11 y12 : Option D), (∀ w ∈ P, w ∈ ws) → Jd S1 b pl ed kr ho op x m n E kn hm od rs md → (pl < S0.length ∧ ed < S0.length ∧ kr < S0.length ∧ ho < S0.length ∧ op < S0.length ∧ x < S0.length) → Fr b S0 S1 k → S1[q]? = some (.lst (R.map (rstD E))) → R.length + 2 * P.length ≤ 100 → k + 2 * P.length < LIM → (∀ l ∈ R, l.length ≤ 9 ∧ ∀ s ∈ l, s < m) →
    ∃ (S2 : Sto) (R' : List (List Nat)) (z10 z11 z12 : Option D), loopF (fun _ => True) (forB (gNm 10) b__law_right_l1) (P.map wordD) [some (.ref b), some (.ref pl), y2, y3, y4, y5, y6, y7, y8, some (.ref q), y10, y11, y12, y13, y14, y15] S1 = .ok (.nx [some (.ref b), some (.ref pl), y2, y3, y4, y5, y6, y7, y8, some (.ref q), z10, z11, z12, y13, y14, y15]) S2 ∧ Fr b S0 S2 (k + 2 * P.length) ∧ Jd S2 b pl ed kr ho op x m n E kn hm od rs md ∧ S2[q]? = some (.lst (R'.map (rstD E))) ∧ R'.length = R.length + 2 * P.length ∧ ∀ l ∈ R', l.length ≤ 9 ∧ ∀ s ∈ l, s < m
  | [], k, S1, R, y10, y11, y12, hP, j, hlt, F, h1, hl, hk, hR => ⟨S1, R, y10, y11, y12, lp_nil, F, j, h1, rfl, hR⟩
  | v :: P, k, S1, R, y10, y11, y12, hP, j, hlt, F, h1, hl, hk, hR => by
    rw [List.length_cons] at hl hk
    have hv := hP v (List.mem_cons_self ..)
    have p := j.ok
    have m6 := p.m6
    have m2 := p.m2
    have vl := w.ln v hv
    have vs := w.sg v hv
    have ln := fun T : Sto => lenT (S := T) (l := v.1) (by omega)
    obtain ⟨t, S2, ht, e2, B2⟩ := take_B F.box (by omega) (show 0 < v.1.length + 1 by omega) (by omega)
    have e2' : f__law_take [.ref b, .int ((v.1.length : Nat) + 1 : Int)] S1 = .ok (.d (.int (t : Int))) S2 := e2
    have sl := slT_to (S := S2) (l := v.1) (k := t) (by omega)
    obtain ⟨part, hpart⟩ : ∃ part, part = v.1.take t := ⟨_, rfl⟩
    rw [← hpart] at sl
    have pl8 : part.length ≤ 8 := by rw [hpart, List.length_take]; omega
    have ps : ∀ s ∈ part, s < m := fun s hs => by rw [hpart] at hs; exact vs s (List.mem_of_mem_take hs)
    have j2 := j.fr B2.fr
    have F2 := F.trans B2.fr
    have g2 := B2.at_ h1 (show q ≠ b by omega)
    have ql := (List.getElem?_eq_some_iff.mp g2).1
    have ty2 := tyD_lst g2
    have bh2 := law_behind_ok j2.pa p.ev2 (l := part) (by omega) fun s hs => Nat.lt_of_lt_of_le (ps s hs) m6
    have ap2 := append_D (d := rstD E part) g2 (Nat.lt_of_le_of_lt (show (R.map (rstD E)).length ≤ 100 by rw [List.length_map]; omega) (by decide))
    have e1 : R.map (rstD E) ++ [rstD E part] = (R ++ [part]).map (rstD E) := by rw [List.map_append]; rfl
    rw [e1] at ap2
    obtain ⟨S3, hS3⟩ : ∃ S3, S3 = S2.set q (.lst ((R ++ [part]).map (rstD E))) := ⟨_, rfl⟩
    have F3 : Fr b S0 S3 (k + 1) := by rw [hS3]; exact F2.put _ hq hb
    have keep3 : ∀ i, i ≠ q → S3[i]? = S2[i]? := fun i hi => by rw [hS3, List.getElem?_set_ne (Ne.symm hi)]
    obtain ⟨l1, l2, l3, l4, l5, l6⟩ := hlt
    have j3 : Jd S3 b pl ed kr ho op x m n E kn hm od rs md := ⟨⟨by rw [keep3 _ (by omega)]; exact j2.pa.pl, by rw [keep3 _ (by omega)]; exact j2.pa.ed, by rw [keep3 _ (by omega)]; exact j2.pa.kn, by rw [keep3 _ (by omega)]; exact j2.pa.hm⟩, by rw [keep3 _ (by omega)]; exact j2.aop, by rw [keep3 _ (by omega)]; exact j2.ax, j2.ok, j2.ao, j2.ar, j2.am, j2.el, j2.npl, j2.ned, j2.nkr, j2.nho, j2.nop, j2.nx⟩
    have g3 : S3[q]? = some (.lst ((R ++ [part]).map (rstD E))) := by rw [hS3]; exact List.getElem?_set_self ql
    have i0 : ixD (.ref pl) (.int 0) S3 = .ok (.d (.int (m : Int))) S3 := ixB j3.pa.pl 0 rfl
    obtain ⟨s4, S4, hs4, e4, B4⟩ := take_B F3.box (by omega) (show 0 < m by omega) (by omega)
    have al := ix_alpha (S := S4) (s := s4) (by omega)
    have ad : addD (.str (tx part)) (.str (tx [s4])) S4 = .ok (.d (.str (tx (part ++ [s4])))) S4 := by
      rw [addD_str (by rw [tx_len, tx_len]; exact Nat.le_trans (show part.length + 1 ≤ 10 by omega) (by decide)), tx_app]
    obtain ⟨more, hmore⟩ : ∃ more, more = part ++ [s4] := ⟨_, rfl⟩
    rw [← hmore] at ad
    have ml9 : more.length ≤ 9 := by rw [hmore, List.length_append, List.length_singleton]; omega
    have mss : ∀ s ∈ more, s < m := fun s hs => by
      rw [hmore] at hs
      rcases List.mem_append.mp hs with hs | hs
      · exact ps s hs
      · rw [List.mem_singleton.mp hs]; exact hs4
    have j4 := j3.fr B4.fr
    have F4 := F3.trans B4.fr
    have g4 := B4.at_ g3 (show q ≠ b by omega)
    have ty4 := tyD_lst g4
    have ql4 := (List.getElem?_eq_some_iff.mp g4).1
    have bh4 := law_behind_ok j4.pa p.ev2 (l := more) (by omega) fun s hs => Nat.lt_of_lt_of_le (mss s hs) m6
    have ap4 := append_D (d := rstD E more) g4 (Nat.lt_of_le_of_lt (show ((R ++ [part]).map (rstD E)).length ≤ 100 by rw [List.length_map, List.length_append, List.length_singleton]; omega) (by decide))
    have e3 : (R ++ [part]).map (rstD E) ++ [rstD E more] = (R ++ [part] ++ [more]).map (rstD E) := by rw [List.map_append (l₁ := R ++ [part])]; rfl
    rw [e3] at ap4
    obtain ⟨S5, hS5⟩ : ∃ S5, S5 = S4.set q (.lst ((R ++ [part] ++ [more]).map (rstD E))) := ⟨_, rfl⟩
    have F5 : Fr b S0 S5 (k + 1 + 1) := by rw [hS5]; exact F4.put _ hq hb
    have keep5 : ∀ i, i ≠ q → S5[i]? = S4[i]? := fun i hi => by rw [hS5, List.getElem?_set_ne (Ne.symm hi)]
    have j5 : Jd S5 b pl ed kr ho op x m n E kn hm od rs md := ⟨⟨by rw [keep5 _ (by omega)]; exact j4.pa.pl, by rw [keep5 _ (by omega)]; exact j4.pa.ed, by rw [keep5 _ (by omega)]; exact j4.pa.kn, by rw [keep5 _ (by omega)]; exact j4.pa.hm⟩, by rw [keep5 _ (by omega)]; exact j4.aop, by rw [keep5 _ (by omega)]; exact j4.ax, j4.ok, j4.ao, j4.ar, j4.am, j4.el, j4.npl, j4.ned, j4.nkr, j4.nho, j4.nop, j4.nx⟩
    have g5 : S5[q]? = some (.lst ((R ++ [part] ++ [more]).map (rstD E))) := by rw [hS5]; exact List.getElem?_set_self ql4
    obtain ⟨S6, R', z10, z11, z12, q1, q2, q3, q4, q5, q6⟩ := right_l1 w hq hb P (k + 1 + 1) S5 (R ++ [part] ++ [more]) (some (wordD v)) (some (.str (tx part))) (some (.str (tx more))) (fun w hw => hP w (List.mem_cons_of_mem _ hw)) j5 ⟨l1, l2, l3, l4, l5, l6⟩ F5 g5 (by simp; omega) (by omega) (fun l hl => by
      rcases List.mem_append.mp hl with hl | hl
      · rcases List.mem_append.mp hl with hl | hl
        · exact hR l hl
        · rw [List.mem_singleton.mp hl]; exact ⟨by omega, ps⟩
      · rw [List.mem_singleton.mp hl]; exact ⟨ml9, mss⟩)
    refine ⟨S6, R', z10, z11, z12, ?_, q2.mono (by rw [List.length_cons]; omega), q3, q4, by rw [q5, List.length_cons]; simp; omega, q6⟩
    rw [List.map_cons, lp_cons]
    have step : forB (gNm 10) b__law_right_l1 (wordD v) [some (.ref b), some (.ref pl), y2, y3, y4, y5, y6, y7, y8, some (.ref q), y10, y11, y12, y13, y14, y15] S1 = .ok (.nx [some (.ref b), some (.ref pl), y2, y3, y4, y5, y6, y7, y8, some (.ref q), some (wordD v), some (.str (tx part)), some (.str (tx more)), y13, y14, y15]) S5 := by
      simp only [rstD] at ap2 ap4 hS3 hS5
      unfold forB b__law_right_l1
      simp only [wordD]
      repeat first | simp only [eSl, ePart, ln, e2', sl, eMeth, ty2, bh2, ap2, ← hS3, i0, e4, al, ad, ty4, bh4, ap4, ← hS5] | walk_at "ev"
    rw [step, bind_ok]
    exact q1
theorem right_l2 {q wr : Nat} (w : WordsOk m E ws) (w0 : ws ≠ []) (wl : ws.length ≤ 100) (nwr : b < wr) (nq : b < q) {o : O} {chk : Sto → Prop} (hC : ∀ S' : Sto, S'[q]? = some o → chk S') : ∀ (R : List (List Nat)) (k : Nat) (S1 : Sto) (nm : Bool) (y13 y14 : Option D), Jd S1 b pl ed kr ho op x m n E kn hm od rs md → Bs b S1 k → S1[wr]? = some (.lst (ws.map wordD)) → S1[q]? = some o → k + 20 * R.length + 20 < LIM → (∀ l ∈ R, l.length ≤ 9 ∧ ∀ s ∈ l, s < m) →
    ∃ (S2 : Sto) (nm' : Bool) (z13 z14 : Option D), loopF chk (forB (gNm 13) b__law_right_l2) (R.map (rstD E)) [some (.ref b), y1, some (.ref x), some (.ref op), some (.bl nm), some (.ref wr), y6, y7, y8, y9, y10, y11, y12, y13, y14, y15] S1 = .ok (.nx [some (.ref b), y1, some (.ref x), some (.ref op), some (.bl nm'), some (.ref wr), y6, y7, y8, y9, y10, y11, y12, z13, z14, y15]) S2 ∧ Fr b S1 S2 (k + 20 * R.length)
  | [], k, S1, nm, y13, y14, j, hB, h1, hq, hk, hR => ⟨S1, nm, y13, y14, lp_nilC (hC _ hq), Fr.refl hB⟩
  | l :: R, k, S1, nm, y13, y14, j, hB, h1, hq, hk, hR => by
    rw [List.length_cons] at hk
    obtain ⟨hl9, hls⟩ := hR l (List.mem_cons_self ..)
    obtain ⟨t, S2, ht, e2, B2⟩ := take_B hB (by omega) (show 0 < 9 by decide) (by omega)
    have e2' : f__law_take [.ref b, .int 9] S1 = .ok (.d (.int (t : Int))) S2 := e2
    obtain ⟨P, S3, e3, B3, hP, Pl⟩ := picks_loop (y1 := y1) (y2 := some (.ref x)) (y3 := some (.ref op)) (y4 := some (.bl nm)) (y6 := y6) (y7 := y7) (y8 := y8) (y9 := y9) (y10 := y10) (y11 := y11) (y12 := y12) (y13 := some (rstD E l)) (y14 := y14) (wr := wr) w0 wl (Nat.ne_of_gt nwr) (List.range t) [] (k + 1) S2 B2.box (B2.at_ h1 (Nat.ne_of_gt nwr)) (by simp; omega) (by simp; omega)
    rw [List.nil_append] at e3
    rw [List.length_range] at Pl B3
    have c1 : c__law_right_1 [some (.ref b), y1, some (.ref x), some (.ref op), some (.bl nm), some (.ref wr), y6, y7, y8, y9, y10, y11, y12, some (rstD E l), y14, y15] S1 = .ok (.tl (P.map wordD)) S3 := by
      unfold c__law_right_1
      rw [eComp_eq]
      have r1 : iRange1 (eCall f__law_take (aCons (eV 0) (aCons (eC (.int 9)) aNil))) [some (.ref b), y1, some (.ref x), some (.ref op), some (.bl nm), some (.ref wr), y6, y7, y8, y9, y10, y11, y12, some (rstD E l), y14, y15] S1 = .ok ⟨(List.range t).map iD, fun _ => True⟩ S2 := range1_nat (by
        repeat first | simp only [e2'] | walk_at "ev") (by omega)
      rw [r1, bind_ok]
      simp only [wipeE]
      have e3' := e3
      simp only [List.set_cons_zero, List.set_cons_succ] at e3' ⊢
      rw [e3', bind_ok]
    have F3 := (B2.trans B3).fr
    have F4 := F3.app [O.lst (P.map wordD)]
    have j4 := j.fr F4
    have g4 : (S3 ++ [O.lst (P.map wordD)])[S3.length]? = some (.lst (P.map wordD)) := getElem?_snoc _ _
    have wP : WordsOk m E P := ⟨fun v hv => w.pw v (hP v hv), fun v hv => w.ln v (hP v hv), fun v hv => w.sg v (hP v hv)⟩
    have tr := law_text_right_ok (more := l) j4.ax g4 j4.aop j4.ok j4.ao j4.ar wP (by omega) hl9 hls nm
    obtain ⟨S5, nm', z13, z14, q1, q2⟩ := right_l2 w w0 wl nwr nq hC R (k + 20) _ (!nm) (some (rstD E l)) (some (.ref S3.length)) j4 (F4.box.mono (by omega)) (F4.at_ h1 (Nat.ne_of_gt nwr)) (F4.at_ hq (Nat.ne_of_gt nq)) (by omega) (fun l' hl' => hR l' (List.mem_cons_of_mem _ hl'))
    refine ⟨S5, nm', z13, z14, ?_, (F4.trans q2).mono (by rw [List.length_cons]; omega)⟩
    rw [List.map_cons, lp_consC (hC _ hq)]
    have step : forB (gNm 13) b__law_right_l2 (rstD E l) [some (.ref b), y1, some (.ref x), some (.ref op), some (.bl nm), some (.ref wr), y6, y7, y8, y9, y10, y11, y12, y13, y14, y15] S1 = .ok (.nx [some (.ref b), y1, some (.ref x), some (.ref op), some (.bl !nm), some (.ref wr), y6, y7, y8, y9, y10, y11, y12, some (rstD E l), some (.ref S3.length), y15]) (S3 ++ [O.lst (P.map wordD)]) := by
      have tr' : f__law_text_right [.ref x, .ref S3.length, rstD E l, .ref op, .bl nm] (S3 ++ [O.lst (P.map wordD)]) = .ok (.d (.bl true)) (S3 ++ [O.lst (P.map wordD)]) := tr
      unfold forB b__law_right_l2
      repeat first | simp only [c1, tr'] | walk_at "ev"
    rw [step, bind_ok]
    exact q1
end

end K0
namespace K0
open PySem L2 PyProof.Rows Ev
local macro_rules | `(tactic| walk_at "ev") => `(tactic| simp only [sFor_eq, sSeq, sRet, sRetN, sIf, sAsg, sExpr, sNext, sPar, sPar3, sCont, sBreak, sNever, eAndM, eOrM, eNotM, eIf, eChain, eOp, eUn, eC, eV, eCall, eIsi, eIsiT, kitAnyB, eTup, eLst, eBi1, aNil, aCons, tVal, tTru, tNotM, tAndM, tOrM, asB, truB, blR, gNm, iAny, bind_ok, bind_no, force_d, force_tl, force_no, gcR_same, walk_tup, walk_tl, walk_str,
  kit_ii, kit_ib, kit_is, kit_it, kit_il, kit_ss, kit_si, kit_sb, kit_st, kit_sl, kit_tt, kit_ti, kit_tb, kit_ts, kit_tl, kit_ll, kit_li, kit_lb, kit_ls, kit_lt, kit_bb, kit_bi, kit_ni, kit_nb, kit_ns, kit_nt, kit_nl, ty_non, ty_bl, ty_int, ty_str, ty_tup,
  leD_int, geD_int, ltD_int, gtD_int, addD_int, subD_int, isD_non, isNotD_non, isD_bl, non_non, non_bl, non_int, non_str, non_tup, non_ref, eqD_int, neD_int, eqD_bl, ixd_tup, len_tup, len_tl, tuple_tl, bg0, bg1, bg2, bg3, bg4, bg5, at0, at1, at2, at3, optR_some,
  List.map_cons, List.map_nil, List.replicate, List.append_nil, List.nil_append, List.cons_append, List.length_cons, List.length_nil, Nat.reduceAdd, Nat.reduceSub, Nat.reduceEqDiff, Nat.reduceLeDiff, if_true, if_false, reduceIte, List.getElem?_cons_zero, List.getElem?_cons_succ, List.set_cons_zero, List.set_cons_succ, Option.bind, Bool.not_true, Bool.not_false, Bool.false_eq_true, beq_self_eq_true, Bool.and_true, Bool.and_false, Bool.true_and, Bool.false_and, Bool.or_true, Bool.or_false, Bool.true_or, Bool.false_or, cst0, cst1, cst2, cst3, cst4, cst5, cst6, Int.reduceLE, Int.reduceLT, Int.reduceBEq, decide_true, decide_false])
section
variable {S S0 S1 S2 : Sto} {b x pl ed kr ho wr op m n : Nat} {rs : List (List Ent)} {md : Nat → Option Nat} {E : List Edg} {kn : List (Option Nat)} {hm : List (List Nat)} {od : List Nat} {ws : List Word}
variable {y0 y1 y2 y3 y4 y5 y6 y7 y8 y9 y10 y11 y12 y13 y14 y15 : Option D}
theorem set_same {S : Sto} {q : Nat} {o : O} (h : S[q]? = some o) : S.set q o = S := by
  apply List.ext_getElem?
  intro i
  by_cases hi : i = q
  · subst hi; rw [List.getElem?_set_self (List.getElem?_eq_some_iff.mp h).1, h]
  · rw [List.getElem?_set_ne (Ne.symm hi)]
theorem due_loop {dq : Nat} (o : OrdOk n od) (kl : kn.length = n) (h1 : dq ≠ op) (h2 : dq ≠ pl) (h3 : dq ≠ kr) : ∀ (w k : Nat) (S1 : Sto) (dl : List D) (y7 : Option D), k + w = n → S1[op]? = some (iL od) → S1[pl]? = some (.lst [.int m, .ref ed, .ref kr, .ref ho]) → S1[kr]? = some (.lst (kn.map modeD)) → S1[dq]? = some (.lst dl) → dl.length = n → (∀ a, a < k → dl[od.getD a 0]? = some (modeD (kn.getD a none))) →
    ∃ (dl' : List D) (z7 : Option D), loopF (fun _ => True) (forB (gNm 7) b__law_right_l0) ((List.range' k w).map iD) [y0, some (.ref pl), y2, some (.ref op), y4, y5, some (.ref dq), y7, y8, y9, y10, y11, y12, y13, y14, y15] S1 = .ok (.nx [y0, some (.ref pl), y2, some (.ref op), y4, y5, some (.ref dq), z7, y8, y9, y10, y11, y12, y13, y14, y15]) (S1.set dq (.lst dl')) ∧ dl'.length = n ∧ ∀ a, a < n → dl'[od.getD a 0]? = some (modeD (kn.getD a none))
  | 0, k, S1, dl, y7, hk, g1, g2, g3, g4, hl, hd => by
    have : k = n := by omega
    subst this
    exact ⟨dl, y7, by rw [set_same g4]; exact lp_nil, hl, hd⟩
  | w + 1, k, S1, dl, y7, hk, g1, g2, g3, g4, hl, hd => by
    have kn' : k < n := by omega
    have ix := ixL (k := od.getD k 0) g1 (i := k) (o.at_ kn')
    have i2 : ixD (.ref pl) (.int 2) S1 = .ok (.d (.ref kr)) S1 := ixB g2 2 rfl
    have i3 := ix_kn (a := k) g3 (by omega)
    have ol := o.ltn kn'
    have st := setI (d := modeD (kn.getD k none)) g4 (i := od.getD k 0) (by omega)
    have ql := (List.getElem?_eq_some_iff.mp g4).1
    obtain ⟨dl', z7, q1, q2, q3⟩ := due_loop o kl h1 h2 h3 w (k + 1) (S1.set dq (.lst (dl.set (od.getD k 0) (modeD (kn.getD k none))))) (dl.set (od.getD k 0) (modeD (kn.getD k none))) (some (iD k)) (by omega) (by rw [List.getElem?_set_ne h1]; exact g1) (by rw [List.getElem?_set_ne h2]; exact g2) (by rw [List.getElem?_set_ne h3]; exact g3) (List.getElem?_set_self ql) (by rw [List.length_set]; exact hl) (fun a ha => by
      by_cases q : a = k
      · subst q
        rw [List.getElem?_set_self (by omega)]
      · rw [List.getElem?_set_ne (fun z => q (o.inj kn' (show a < n by omega) z).symm)]
        exact hd a (by omega))
    refine ⟨dl', z7, ?_, q2, q3⟩
    rw [List.range'_succ, List.map_cons, lp_cons]
    have step : forB (gNm 7) b__law_right_l0 (iD k) [y0, some (.ref pl), y2, some (.ref op), y4, y5, some (.ref dq), y7, y8, y9, y10, y11, y12, y13, y14, y15] S1 = .ok (.nx [y0, some (.ref pl), y2, some (.ref op), y4, y5, some (.ref dq), some (iD k), y8, y9, y10, y11, y12, y13, y14, y15]) (S1.set dq (.lst (dl.set (od.getD k 0) (modeD (kn.getD k none))))) := by
      unfold forB b__law_right_l0
      repeat first | simp only [i2, i3, gSb, ix, st] | walk_at "ev"
    rw [step, bind_ok]
    rw [List.set_set] at q1
    exact q1
theorem RowsOf.uniq {rs rs' : List (List Ent)} (o : OrdOk n od) (r : RowsOf m n E od rs) (r' : RowsOf m n E od rs') : rs' = rs := by
  apply List.ext_getElem?
  intro i
  by_cases hi : i < n
  · obtain ⟨a, ha, rfl⟩ := o.onto hi
    rw [r.row a ha, r'.row a ha]
  · rw [List.getElem?_eq_none (by rw [r'.len]; omega), List.getElem?_eq_none (by rw [r.len]; omega)]
theorem ok_mode (c : Option Nat) : okD (modeD c) = true ∧ dpD (modeD c) ≤ 0 ∧ smD (modeD c) = true := by
  cases c <;> exact ⟨rfl, Nat.le_refl _, rfl⟩
theorem smDs_map {α : Type} (f : α → D) (l : List α) (h : ∀ a ∈ l, smD (f a) = true) : smDs (l.map f) = true := by
  induction l with
  | nil => rfl
  | cons a l ih =>
    rw [List.map_cons]
    unfold smDs
    rw [h a (List.mem_cons_self ..), ih fun x hx => h x (List.mem_cons_of_mem _ hx)]
    rfl
theorem okv_modes (k : Nat) (hk : k ≤ 8) (md : Nat → Option Nat) : okD (modesD k md) = true ∧ dpD (modesD k md) ≤ 1 ∧ smD (modesD k md) = true := by
  unfold modesD okD dpD smD
  refine ⟨okDs_map _ _ fun a _ => (ok_mode _).1, Nat.succ_le_succ (dpDs_map _ _ fun a _ => (ok_mode _).2.1), ?_⟩
  rw [Bool.and_eq_true]
  exact ⟨decide_eq_true (by simp; omega), smDs_map _ _ fun a _ => (ok_mode _).2.2⟩
theorem ok_rows {rs : List (List Ent)} (h : RowsOk m rs) : okD (rowsD rs) = true ∧ dpD (rowsD rs) ≤ 5 ∧ smD (rowsD rs) = true := by
  have he : ∀ e : Ent, entOk m rs.length e → okD (entD e) = true ∧ dpD (entD e) ≤ 3 ∧ smD (entD e) = true := fun e h' => by
    match e, h' with
    | none, _ => exact ⟨rfl, Nat.zero_le _, rfl⟩
    | some (k, es), ⟨h1, h2, h3⟩ =>
      obtain ⟨o1, o2⟩ := ok_evs h.m6 h3
      have o3 : smD (evsD es) = true := sm_evs (by omega)
      refine ⟨by simp [entD, okD, okDs, o1], ?_, by simp [entD, smD, smDs, o3]⟩
      show max 0 (max (dpD (evsD es)) 0) + 1 ≤ 3
      omega
  have hr : ∀ r ∈ rs, okD (rowD r) = true ∧ dpD (rowD r) ≤ 4 ∧ smD (rowD r) = true := fun r hr => by
    obtain ⟨h1, h2⟩ := h.row r hr
    have m6 := h.m6
    unfold rowD okD dpD smD
    refine ⟨okDs_map _ _ fun e he' => (he e (h2 e he')).1, Nat.succ_le_succ (dpDs_map _ _ fun e he' => (he e (h2 e he')).2.1), ?_⟩
    rw [Bool.and_eq_true]
    exact ⟨decide_eq_true (by rw [List.length_map]; omega), smDs_map _ _ fun e he' => (he e (h2 e he')).2.2⟩
  have n8 := h.n8
  unfold rowsD okD dpD smD
  refine ⟨okDs_map _ _ fun e he' => (hr e he').1, Nat.succ_le_succ (dpDs_map _ _ fun e he' => (hr e he').2.1), ?_⟩
  rw [Bool.and_eq_true]
  exact ⟨decide_eq_true (by rw [List.length_map]; omega), smDs_map _ _ fun e he' => (hr e he').2.2⟩
theorem law_right_ok {k : Nat} {nm : Bool} (j : Jd S b pl ed kr ho op x m n E kn hm od rs md) (hB : Bs b S k) (hk : k + 1000 < LIM) : ∃ S2, f__law_right [.ref b, .ref pl, .ref x, .ref op, .bl nm] S = .ok (.d (.bl true)) S2 ∧ Bm b S S2 (k + 1000) := by
  have p := j.ok
  have n1 := p.n1
  have n8 := p.n8
  have bl := hB.lt
  obtain ⟨ws, ew, w, wl, wh⟩ := law_words_ok j.pa p j.el
  have w0 : ws ≠ [] := fun q => by
    obtain ⟨v, hv, _⟩ := wh 0 n1
    rw [q] at hv
    cases hv
  have opl := (List.getElem?_eq_some_iff.mp j.aop).1
  have pll := (List.getElem?_eq_some_iff.mp j.pa.pl).1
  have krl := (List.getElem?_eq_some_iff.mp j.pa.kn).1
  have edl := (List.getElem?_eq_some_iff.mp j.pa.ed).1
  have hol := (List.getElem?_eq_some_iff.mp j.pa.hm).1
  have xl := (List.getElem?_eq_some_iff.mp j.ax).1
  -- words
  obtain ⟨Sa, hSa⟩ : ∃ Sa, Sa = S ++ [O.lst (ws.map wordD)] := ⟨_, rfl⟩
  have La : Sa.length = S.length + 1 := by rw [hSa]; simp
  have Fa : Fr b S Sa k := by rw [hSa]; exact (Fr.refl hB).app _
  have ga : Sa[S.length]? = some (.lst (ws.map wordD)) := by rw [hSa]; exact getElem?_snoc _ _
  have ja := j.fr Fa
  -- due
  have lnod := fun (T : Sto) (hT : T[op]? = some (iL od)) => (show bLen (.d (.ref op)) T = .ok (.d (.int (n : Nat))) T from by
    have := len_lst hT
    rw [List.length_map, j.ao.len] at this
    exact this)
  obtain ⟨Sa', hSa'⟩ : ∃ Sa', Sa' = Sa ++ [O.lst [.non]] := ⟨_, rfl⟩
  have Fa' : Fr b S Sa' k := by rw [hSa']; exact Fa.app _
  have ja' := j.fr Fa'
  have La' : Sa'.length = S.length + 2 := by rw [hSa']; simp [La]
  have mu : mulD (.ref Sa.length) (.int (n : Nat)) Sa' = .ok (.tl (List.replicate n D.non)) Sa' := mul_non (by rw [hSa']; exact getElem?_snoc _ _) (by omega)
  obtain ⟨Sb, hSb⟩ : ∃ Sb, Sb = Sa' ++ [O.lst (List.replicate n D.non)] := ⟨_, rfl⟩
  have Fb : Fr b S Sb k := by rw [hSb]; exact Fa'.app _
  have jb := j.fr Fb
  have gb : Sb[Sa'.length]? = some (.lst (List.replicate n D.non)) := by rw [hSb]; exact getElem?_snoc _ _
  obtain ⟨dl, z7, e0, dll, dlh⟩ := due_loop (y0 := some (.ref b)) (y2 := some (.ref x)) (y4 := some (.bl nm)) (y5 := some (.ref S.length)) (y8 := none) (y9 := none) (y10 := none) (y11 := none) (y12 := none) (y13 := none) (y14 := none) (y15 := none) (dq := Sa'.length) j.ao p.kl (by omega) (by omega) (by omega) n 0 Sb (List.replicate n D.non) none (by omega) jb.aop jb.pa.pl jb.pa.kn gb (by simp) (fun a ha => by omega)
  obtain ⟨Sc, hSc⟩ : ∃ Sc, Sc = Sb.set Sa'.length (.lst dl) := ⟨_, rfl⟩
  rw [← hSc] at e0
  have Fc : Fr b S Sc k := by rw [hSc]; exact Fb.put _ (by omega) bl
  have jc := j.fr Fc
  have gc : Sc[Sa'.length]? = some (.lst dl) := by rw [hSc]; exact List.getElem?_set_self (List.getElem?_eq_some_iff.mp gb).1
  have hdl : D.tup dl = modesD rs.length md := by
    unfold modesD
    congr 1
    apply List.ext_getElem?
    intro i
    by_cases hi : i < n
    · obtain ⟨a, ha, rfl⟩ := j.ao.onto hi
      rw [dlh a ha, List.getElem?_map, List.getElem?_range (by rw [j.ar.len]; exact hi), ← j.am a ha]
      rfl
    · rw [List.getElem?_eq_none (by omega), List.getElem?_eq_none (by rw [List.length_map, List.length_range, j.ar.len]; omega)]
  have r1 := range1_nat (mm := eBi1 bLen (eV 3)) (s := [some (.ref b), some (.ref pl), some (.ref x), some (.ref op), some (.bl nm), some (.ref S.length), some (.ref Sa'.length), none, none, none, none, none, none, none, none, none]) (S := Sb) (S1 := Sb) (n := n) (lnod _ jb.aop) (by omega)
  rw [List.range_eq_range'] at r1
  have mo := modes_ok jc.ax
  have tl := tuple_lst gc
  rw [hdl] at tl
  obtain ⟨m1, m2, m3⟩ := okv_modes rs.length (by rw [j.ar.len]; omega) md
  have s1 := law_same_ok 12 (modesD rs.length md) Sc m1 m3 (by omega)
  have f1 := fld_many jc.ax
  have f2 := fld_rows jc.ax
  have f3 := fld_ends jc.ax
  obtain ⟨ro1, ro2, ro3⟩ := ok_rows (j.ar.rowsOk p j.ao)
  obtain ⟨L, hL⟩ : ∃ L : List D, L = [.int m, rowsD rs, .tup [.int 0]] := ⟨_, rfl⟩
  have s2 := same_lsts (S := Sc) (ds := L) (by simp [hL, okDs, okD, ro1]) (by simp [hL, smDs, smD, ro3]) (by simp [hL]) (by simp [hL, dpDs, dpD]; omega)
  obtain ⟨Sd', hSd'⟩ : ∃ Sd', Sd' = Sc ++ [O.lst L] := ⟨_, rfl⟩
  obtain ⟨Sd, hSd⟩ : ∃ Sd, Sd = Sc ++ [O.lst L] ++ [O.lst L] := ⟨_, rfl⟩
  have Fd' : Fr b S Sd' k := by rw [hSd']; exact Fc.app _
  have jd' := j.fr Fd'
  have Fd : Fr b S Sd k := by rw [hSd]; exact (Fc.app _).app _
  have jd := j.fr Fd
  obtain ⟨rs', er, rr⟩ := law_rows_ok jd'.pa jd'.aop p j.ao
  have hrs := j.ar.uniq j.ao rr
  rw [hrs] at er
  have i0 : ixD (.ref pl) (.int 0) Sd' = .ok (.d (.int m)) Sd' := ixB jd'.pa.pl 0 rfl
  rw [← hSd', ← show Sd = Sd' ++ [O.lst L] by rw [hSd, hSd']] at s2
  have eSd : Sd' ++ [O.lst L] = Sd := by rw [hSd, hSd']
  -- rests
  obtain ⟨Se, hSe⟩ : ∃ Se, Se = Sd ++ [O.lst [rstD E []]] := ⟨_, rfl⟩
  have Fe : Fr b S Se k := by rw [hSe]; exact Fd.app _
  have je := j.fr Fe
  have ge : Se[Sd.length]? = some (.lst ([[]].map (rstD E))) := by rw [hSe]; exact getElem?_snoc _ _
  have Lc : Sc.length = S.length + 3 := by rw [hSc, List.length_set, hSb]; simp [La']
  have Ld : Sd.length = S.length + 5 := by rw [hSd]; simp [Lc]
  have gcw : Sc[S.length]? = some (.lst (ws.map wordD)) := by
    rw [hSc, List.getElem?_set_ne (by omega), hSb, List.getElem?_append_left (by omega), hSa', List.getElem?_append_left (by omega)]
    exact ga
  have gdw : Sd[S.length]? = some (.lst (ws.map wordD)) := by
    rw [hSd, List.getElem?_append_left (by simp; omega), List.getElem?_append_left (by omega)]
    exact gcw
  have gew : Se[S.length]? = some (.lst (ws.map wordD)) := by
    rw [hSe, List.getElem?_append_left (by omega)]
    exact gdw
  obtain ⟨P, Sf, e6, Bf, hP, Pl⟩ := picks_loop (y1 := some (.ref pl)) (y2 := some (.ref x)) (y3 := some (.ref op)) (y4 := some (.bl nm)) (y6 := some (.ref Sa'.length)) (y7 := z7) (y8 := some (modesD rs.length md)) (y9 := some (.ref Sd.length)) (y10 := none) (y11 := none) (y12 := none) (y13 := none) (y14 := none) (b := b) (wr := S.length) w0 wl (by omega) (List.range 6) [] k Se Fe.box gew (by simp; omega) (by simp)
  rw [List.nil_append] at e6
  rw [List.length_range] at Pl Bf
  have c0 : c__law_right_0 [some (.ref b), some (.ref pl), some (.ref x), some (.ref op), some (.bl nm), some (.ref S.length), some (.ref Sa'.length), z7, some (modesD rs.length md), some (.ref Sd.length), none, none, none, none, none, none] Se = .ok (.tl (P.map wordD)) Sf := by
    unfold c__law_right_0
    rw [eComp_eq]
    have r6 : iRange1 (eC (.int 6)) [some (.ref b), some (.ref pl), some (.ref x), some (.ref op), some (.bl nm), some (.ref S.length), some (.ref Sa'.length), z7, some (modesD rs.length md), some (.ref Sd.length), none, none, none, none, none, none] Se = .ok ⟨(List.range 6).map iD, fun _ => True⟩ Se := range1_nat (n := 6) rfl (by omega)
    rw [r6, bind_ok]
    have e6' : loopC (fun _ => True) (gNm 15) tYesM (eCall f__law_pick (aCons (eV 0) (aCons (eV 5) aNil))) (wipeE [some (.ref b), some (.ref pl), some (.ref x), some (.ref op), some (.bl nm), some (.ref S.length), some (.ref Sa'.length), z7, some (modesD rs.length md), some (.ref Sd.length), none, none, none, none, none, none] [15]) ((List.range 6).map iD) [] Se = _ := e6
    simp only
    rw [e6', bind_ok]
  have Ff := Fe.trans Bf.fr
  have jf := je.fr Bf.fr
  have gf := Bf.at_ ge (by omega)
  have gfw := Bf.at_ gew (by omega)
  have Bd : Bs b Sd k := Fd.box
  have Fdf : Fr b Sd Sf (k + 6) := by
    have : Fr b Sd Se k := by rw [hSe]; exact (Fr.refl Bd).app _
    exact this.trans Bf.fr
  obtain ⟨Sg, R, z10, z11, z12, e10, Fg, jg, gg, Rl, hR⟩ := right_l1 (y2 := some (.ref x)) (y3 := some (.ref op)) (y4 := some (.bl nm)) (y5 := some (.ref S.length)) (y6 := some (.ref Sa'.length)) (y7 := z7) (y8 := some (modesD rs.length md)) (y13 := none) (y14 := none) (y15 := none) (S0 := Sd) (q := Sd.length) w (Nat.le_refl _) (by omega) P (k + 6) Sf [[]] none none none hP jf ⟨by omega, by omega, by omega, by omega, by omega, by omega⟩ Fdf gf (by simp; omega) (by omega) (fun l hl => by
    rw [List.mem_singleton.mp hl]
    exact ⟨Nat.zero_le _, fun s hs => by cases hs⟩)
  have ggw : Sg[S.length]? = some (.lst (ws.map wordD)) := by
    rw [Fg.keep S.length (by omega) (by omega)]
    exact gdw
  have wk := walk_lst gg
  have Rl' : R.length = 13 := by rw [Rl, Pl]; rfl
  obtain ⟨Sh, nm', z13, z14, e13, Fh⟩ := right_l2 (y1 := some (.ref pl)) (y6 := some (.ref Sa'.length)) (y7 := z7) (y8 := some (modesD rs.length md)) (y9 := some (.ref Sd.length)) (y10 := z10) (y11 := z11) (y12 := z12) (y15 := none) (q := Sd.length) (wr := S.length) (o := .lst (R.map (rstD E))) (chk := fun S' => Ev.listAt S' Sd.length = some (R.map (rstD E))) w w0 wl bl (by omega) (fun S' h => listAt_lst h) R (k + 6 + 2 * P.length) Sg nm none none jg Fg.box ggw gg (by omega) hR
  have jh := jg.fr Fh
  obtain ⟨Si, ei, Bi⟩ := law_inner_right_ok (nm := nm') jh Fh.box (by omega) (Fh.at_ ggw (by omega)) bl w wl wh
  have Fi : Fr b S Si (k + 6 + 2 * P.length + 20 * R.length + 100) := ((Fd.trans Fg).trans Fh).trans Bi.fr
  obtain ⟨S2, g, Bz⟩ := Fi.gc (v := .d (.bl true)) bl rfl
  refine ⟨S2, ?_, Bz.mono (by omega)⟩
  have ln1 := lnod _ ja'.aop
  have hSe' : Sd ++ [O.lst [D.tup [.str "", .tup [.int 0, .tup []]]]] = Se := by
    rw [hSe]
    show _ = Sd ++ [O.lst [D.tup [.str (tx []), .tup [.int 0, .tup []]]]]
    rw [tx_nil]
  subst hL
  unfold f__law_right b__law_right runF
  cases nm <;> repeat first | simp only [ew, ← hSa, ← hSa', ln1, mu, ← hSb, r1, e0, eCallK, perm1, mo, tl, s1, f1, f2, f3, ← hSd', i0, er, eSd, s2, hSe', c0, e10, wk, e13, ei, g] | walk_at "ev"
end

end K0
namespace K0
open PySem L2 PyProof.Rows Ev
local macro_rules | `(tactic| walk_at "ev") => `(tactic| simp only [sFor_eq, sSeq, sRet, sRetN, sIf, sAsg, sExpr, sNext, sPar, sPar3, sCont, sBreak, sNever, eAndM, eOrM, eNotM, eIf, eChain, eOp, eUn, eC, eV, eCall, eIsi, eIsiT, kitAnyB, eTup, eLst, eBi1, aNil, aCons, tVal, tTru, tNotM, tAndM, tOrM, asB, truB, blR, gNm, iAny, bind_ok, bind_no, force_d, force_tl, force_no, gcR_same, walk_tup, walk_tl, walk_str,
  kit_ii, kit_ib, kit_is, kit_it, kit_il, kit_ss, kit_si, kit_sb, kit_st, kit_sl, kit_tt, kit_ti, kit_tb, kit_ts, kit_tl, kit_ll, kit_li, kit_lb, kit_ls, kit_lt, kit_bb, kit_bi, kit_ni, kit_nb, kit_ns, kit_nt, kit_nl, ty_non, ty_bl, ty_int, ty_str, ty_tup,
  leD_int, geD_int, ltD_int, gtD_int, addD_int, subD_int, isD_non, isNotD_non, isD_bl, non_non, non_bl, non_int, non_str, non_tup, non_ref, eqD_int, neD_int, eqD_bl, ixd_tup, len_tup, len_tl, tuple_tl, bg0, bg1, bg2, bg3, bg4, bg5, at0, at1, at2, at3, optR_some,
  List.map_cons, List.map_nil, List.replicate, List.append_nil, List.nil_append, List.cons_append, List.length_cons, List.length_nil, Nat.reduceAdd, Nat.reduceSub, Nat.reduceEqDiff, Nat.reduceLeDiff, if_true, if_false, reduceIte, List.getElem?_cons_zero, List.getElem?_cons_succ, List.set_cons_zero, List.set_cons_succ, Option.bind, Bool.not_true, Bool.not_false, Bool.false_eq_true, beq_self_eq_true, Bool.and_true, Bool.and_false, Bool.true_and, Bool.false_and, Bool.or_true, Bool.or_false, Bool.true_or, Bool.false_or, cst0, cst1, cst2, cst3, cst4, cst5, cst6, Int.reduceLE, Int.reduceLT, Int.reduceBEq, decide_true, decide_false])
/-! the law -/
section
variable {S S0 S1 S2 : Sto} {b c pl ed kr ho op x m n : Nat} {rs : List (List Ent)} {md : Nat → Option Nat} {E : List Edg} {kn : List (Option Nat)} {hm : List (List Nat)} {od : List Nat}
variable {y0 y1 y2 y3 y4 y5 y6 y7 y8 y9 y10 y11 : Option D}
/-- a plan, its order and its reader, all of them behind c -/
def JdX (S : Sto) (b c pl op x : Nat) : Prop := ∃ ed kr ho m n E kn hm od rs md, Jd S b pl ed kr ho op x m n E kn hm od rs md ∧ c ≤ pl ∧ c ≤ ed ∧ c ≤ kr ∧ c ≤ ho ∧ c ≤ op ∧ c ≤ x
theorem JdX.fr {k : Nat} (j : JdX S b c pl op x) (f : Fr b S S1 k) : JdX S1 b c pl op x := by
  obtain ⟨ed, kr, ho, m, n, E, kn, hm, od, rs, md, j, h⟩ := j
  exact ⟨ed, kr, ho, m, n, E, kn, hm, od, rs, md, j.fr f, h⟩
theorem JdX.put {q : Nat} (j : JdX S b c pl op x) (o : O) (hq : q < c) : JdX (S.set q o) b c pl op x := by
  obtain ⟨ed, kr, ho, m, n, E, kn, hm, od, rs, md, j, h1, h2, h3, h4, h5, h6⟩ := j
  have k : ∀ i, c ≤ i → (S.set q o)[i]? = S[i]? := fun i hi => List.getElem?_set_ne (by omega)
  exact ⟨ed, kr, ho, m, n, E, kn, hm, od, rs, md, ⟨⟨by rw [k _ h1]; exact j.pa.pl, by rw [k _ h2]; exact j.pa.ed, by rw [k _ h3]; exact j.pa.kn, by rw [k _ h4]; exact j.pa.hm⟩, by rw [k _ h5]; exact j.aop, by rw [k _ h6]; exact j.ax, j.ok, j.ao, j.ar, j.am, j.el, j.npl, j.ned, j.nkr, j.nho, j.nop, j.nx⟩, h1, h2, h3, h4, h5, h6⟩
/-- the modes by the numbers of states -/
def mdOf (od : List Nat) (kn : List (Option Nat)) (k : Nat) : Option Nat := kn.getD (od.idxOf k) none
theorem mdOf_at (o : OrdOk n od) {a : Nat} (ha : a < n) : mdOf od kn (od.getD a 0) = kn.getD a none := by
  have hl : a < od.length := by rw [o.len]; exact ha
  have : od.getD a 0 = od[a] := by
    rw [List.getD_eq_getElem?_getD, List.getElem?_eq_getElem hl]; rfl
  unfold mdOf
  rw [this, o.nd.idxOf_getElem a hl]
theorem pick_int {L : List Int} {k : Nat} (hB : Bs b S k) (hk : k < LIM) (h0 : L ≠ []) (h1 : L.length ≤ 100) : ∃ (i : Int) (S1 : Sto), i ∈ L ∧ f__law_pick [.ref b, .ref S.length] (S ++ [.lst (L.map .int)]) = .ok (.d (.int i)) S1 ∧ Fr b S S1 (k + 1) := by
  have cl : clDs (S.length + 1) (L.map D.int) = true := by
    clear h0 h1
    induction L with
    | nil => rfl
    | cons i L ih => rw [List.map_cons]; simp only [clDs, clD, ih]; rfl
  obtain ⟨t, d, S1, g1, g2, g3⟩ := pick_new (ds := L.map .int) hB hk (by simpa using h0) (by simp; omega) cl
  rw [List.getElem?_map] at g1
  obtain ⟨i, q1, rfl⟩ := Option.map_eq_some_iff.mp g1
  exact ⟨i, S1, List.mem_of_getElem? q1, g2, g3⟩
theorem bg6 : (6 ≤ BIG) = True := by decide
theorem bg7 : (7 ≤ BIG) = True := by decide
structure Lst3 (S : Sto) (P : Nat) (ps os xs : List Nat) : Prop where
  p : S[P]? = some (.lst (ps.map .ref))
  o : S[P + 1]? = some (.lst (os.map .ref))
  x : S[P + 2]? = some (.lst (xs.map .ref))
theorem Lst3.fr {P k : Nat} {ps os xs : List Nat} (l : Lst3 S P ps os xs) (f : Fr b S S1 k) (h : b < P) : Lst3 S1 P ps os xs :=
  ⟨f.at_ l.p (by omega), f.at_ l.o (by omega), f.at_ l.x (by omega)⟩
theorem app_ref {p q : Nat} {ps : List Nat} (h : S[p]? = some (.lst (ps.map .ref))) (hl : ps.length ≤ 10) : mAppend "list" (.ref p) [.ref q] S = .ok (.d .non) (S.set p (.lst ((ps ++ [q]).map .ref))) := by
  have := append_D (d := .ref q) h (Nat.lt_of_le_of_lt (show (ps.map D.ref).length ≤ 10 by rw [List.length_map]; exact hl) (by decide))
  rw [List.map_append]
  exact this
theorem law_l0_ok {y7x : D} {k P : Nat} {nm : Bool} {ps os xs : List Nat} (hB : Bs b S k) (hk : k + 2000 < LIM) (hP : b < P) (l : Lst3 S P ps os xs) (hp : ps.length ≤ 5) (ho : os.length ≤ 5) (hx : xs.length ≤ 5) (hc : P + 3 ≤ S.length) (hJ : ∀ (t pl op x : Nat), ps[t]? = some pl → os[t]? = some op → xs[t]? = some x → JdX S b (P + 3) pl op x) :
    ∃ (S2 : Sto) (pl op x : Nat) (z8 z9 z10 : Option D), forB (gNm 7) b_law_l0 y7x [y0, y1, some (.ref b), some (.bl nm), some (.ref P), some (.ref (P + 1)), some (.ref (P + 2)), y7, y8, y9, y10, y11] S = .ok (.nx [y0, y1, some (.ref b), some (.bl nm), some (.ref P), some (.ref (P + 1)), some (.ref (P + 2)), some y7x, z8, z9, z10, y11]) S2 ∧ Bs b S2 (k + 2000) ∧ S.length ≤ S2.length ∧ (∀ i, i < P → i ≠ b → S2[i]? = S[i]?) ∧ Lst3 S2 P (ps ++ [pl]) (os ++ [op]) (xs ++ [x]) ∧ JdX S2 b (P + 3) pl op x ∧ (∀ (t pl op x : Nat), ps[t]? = some pl → os[t]? = some op → xs[t]? = some x → JdX S2 b (P + 3) pl op x) := by
  obtain ⟨m', S1, hm', e1, F1⟩ := pick_int (L := [5, 5, 6, 6, 4, 3, 2]) hB (by omega) (by simp) (by simp)
  obtain ⟨n', S2, hn', e2, F2⟩ := pick_int (L := [6, 7, 8, 8, 5, 2]) F1.box (by omega) (by simp) (by simp)
  obtain ⟨m, hm, m2, m6⟩ : ∃ m : Nat, m' = (m : Int) ∧ 2 ≤ m ∧ m ≤ 6 := by
    simp only [List.mem_cons, List.not_mem_nil, or_false] at hm'
    exact ⟨m'.toNat, by omega, by omega, by omega⟩
  obtain ⟨n, hn, n1, n8⟩ : ∃ n : Nat, n' = (n : Int) ∧ 1 ≤ n ∧ n ≤ 8 := by
    simp only [List.mem_cons, List.not_mem_nil, or_false] at hn'
    exact ⟨n'.toNat, by omega, by omega, by omega⟩
  subst hm hn
  have F12 := F1.trans F2
  have bl := hB.lt
  have lS2 := F12.len
  obtain ⟨S3, E, kn, hom, e3, Pl, p, el⟩ := law_planned_ok (m := m) (cnt := n) F2.box (by omega) m2 m6 n1 n8
  obtain ⟨S4, hS4⟩ : ∃ S4, S4 = S3 ++ [O.lst [.int m, .ref (S2.length + 1), .ref S2.length, .ref (S2.length + 2)]] := ⟨_, rfl⟩
  have Pl4 := Pl.app [O.lst [.int m, .ref (S2.length + 1), .ref S2.length, .ref (S2.length + 2)]]
  rw [← hS4] at Pl4
  have lg := Pl.long
  have pa4 : PlanAt S4 S3.length (S2.length + 1) S2.length (S2.length + 2) m E kn hom := ⟨by rw [hS4]; exact getElem?_snoc _ _, Pl4.ed, Pl4.kn, Pl4.hm⟩
  have F4 : Fr b S S4 (k + 1 + 1 + 1000) := F12.trans Pl4.fr
  have i2 : ixD (.ref S3.length) (.int 2) S4 = .ok (.d (.ref S2.length)) S4 := ixB pa4.pl 2 rfl
  have ln : bLen (.d (.ref S2.length)) S4 = .ok (.d (.int (n : Nat))) S4 := by
    have := len_lst pa4.kn
    rw [List.length_map, p.kl] at this
    exact this
  obtain ⟨S5, od, e5, F5, g5, oo⟩ := law_order_ok (cnt := n) F4.box (by omega) n1 n8
  have F45 := F4.trans F5
  have l4 : S4.length = S3.length + 1 := by rw [hS4]; simp
  have pa5 : PlanAt S5 S3.length (S2.length + 1) S2.length (S2.length + 2) m E kn hom := ⟨F5.at_ pa4.pl (by omega), F5.at_ pa4.ed (by omega), F5.at_ pa4.kn (by omega), F5.at_ pa4.hm (by omega)⟩
  have L5 := l.fr F45 hP
  have tp := tyD_lst L5.p
  have ap6 := app_ref (q := S3.length) L5.p (by omega)
  obtain ⟨S6, hS6⟩ : ∃ S6, S6 = S5.set P (.lst ((ps ++ [S3.length]).map .ref)) := ⟨_, rfl⟩
  rw [← hS6] at ap6
  have k6 : ∀ i, i ≠ P → S6[i]? = S5[i]? := fun i hi => by rw [hS6, List.getElem?_set_ne (Ne.symm hi)]
  have o6 : S6[P + 1]? = some (.lst (os.map .ref)) := by rw [k6 _ (by omega)]; exact L5.o
  have tp6 := tyD_lst o6
  have ap7 := app_ref (q := S4.length + 1) o6 (by omega)
  obtain ⟨S7, hS7⟩ : ∃ S7, S7 = S6.set (P + 1) (.lst ((os ++ [S4.length + 1]).map .ref)) := ⟨_, rfl⟩
  rw [← hS7] at ap7
  have k7 : ∀ i, i ≠ P + 1 → S7[i]? = S6[i]? := fun i hi => by rw [hS7, List.getElem?_set_ne (Ne.symm hi)]
  have k75 : ∀ i, P + 3 ≤ i → S7[i]? = S5[i]? := fun i hi => by rw [k7 i (by omega), k6 i (by omega)]
  have l7 : S7.length = S5.length := by rw [hS7, List.length_set, hS6, List.length_set]
  have pa7 : PlanAt S7 S3.length (S2.length + 1) S2.length (S2.length + 2) m E kn hom := ⟨by rw [k75 _ (by omega)]; exact pa5.pl, by rw [k75 _ (by omega)]; exact pa5.ed, by rw [k75 _ (by omega)]; exact pa5.kn, by rw [k75 _ (by omega)]; exact pa5.hm⟩
  have op7 : S7[S4.length + 1]? = some (iL od) := by rw [k75 _ (by omega)]; exact g5
  have x7 : S7[P + 2]? = some (.lst (xs.map .ref)) := by rw [k7 _ (by omega), k6 _ (by omega)]; exact L5.x
  have tp7 := tyD_lst x7
  obtain ⟨rs, er, rr⟩ := law_rows_ok pa7 op7 p oo
  have hmd : ∀ a, a < n → mdOf od kn (od.getD a 0) = kn.getD a none := fun a ha => mdOf_at oo ha
  have hro := rr.rowsOk p oo
  have hin : (S7 ++ [O.ins "Reader" []])[S7.length]? = some (.ins "Reader" []) := getElem?_snoc _ _
  have ei := init_ok m2 hro (rr.fits p oo hmd) (rr.all p oo) hin
  rw [set_snoc] at ei
  obtain ⟨S8, hS8⟩ : ∃ S8, S8 = S7 ++ [readerO m rs (mdOf od kn)] := ⟨_, rfl⟩
  rw [← hS8] at ei
  have lP : P + 2 < S7.length := (List.getElem?_eq_some_iff.mp x7).1
  have k8 : ∀ i, i < S7.length → S8[i]? = S7[i]? := fun i hi => by rw [hS8, List.getElem?_append_left hi]
  have x8 : S8[P + 2]? = some (.lst (xs.map .ref)) := by rw [k8 _ lP]; exact x7
  have ap9 := app_ref (q := S7.length) x8 (by omega)
  obtain ⟨S9, hS9⟩ : ∃ S9, S9 = S8.set (P + 2) (.lst ((xs ++ [S7.length]).map .ref)) := ⟨_, rfl⟩
  rw [← hS9] at ap9
  have k9 : ∀ i, i ≠ P + 2 → S9[i]? = S8[i]? := fun i hi => by rw [hS9, List.getElem?_set_ne (Ne.symm hi)]
  have l8 : S8.length = S7.length + 1 := by rw [hS8]; simp
  have k95 : ∀ i, i < S5.length → i ≠ P → i ≠ P + 1 → i ≠ P + 2 → S9[i]? = S5[i]? := fun i hi h1 h2 h3 => by rw [k9 i h3, k8 i (by omega), k7 i h2, k6 i h1]
  have l5 : S4.length ≤ S5.length := F5.len
  have l5' : S4.length + 1 < S5.length := (List.getElem?_eq_some_iff.mp g5).1
  have hold : ∀ (t pl op x : Nat), ps[t]? = some pl → os[t]? = some op → xs[t]? = some x → JdX S9 b (P + 3) pl op x := fun t pl op x h1 h2 h3 => by
    have j0 := hJ t pl op x h1 h2 h3
    have j5 := j0.fr F45
    have j6 := j5.put (q := P) (.lst ((ps ++ [S3.length]).map .ref)) (by omega)
    have j7 := j6.put (q := P + 1) (.lst ((os ++ [S4.length + 1]).map .ref)) (by omega)
    rw [← hS6, ← hS7] at j7
    have B7 : Bs b S7 (k + 1 + 1 + 1000 + 100) := by
      obtain ⟨bx, h1, h2⟩ := F45.box
      exact ⟨bx, by rw [k7 b (by omega), k6 b (by omega)]; exact h1, h2⟩
    have j8 := j7.fr ((Fr.refl B7).app [readerO m rs (mdOf od kn)])
    rw [← hS8] at j8
    have j9 := j8.put (q := P + 2) (.lst ((xs ++ [S7.length]).map .ref)) (by omega)
    rw [← hS9] at j9
    exact j9
  have bx9 : Bs b S9 (k + 2000) := by
    obtain ⟨bx, h1, h2⟩ := F45.box
    exact ⟨bx, by rw [k95 b (Nat.lt_of_lt_of_le bl F45.len) (by omega) (by omega) (by omega)]; exact h1, h2.mono (by omega)⟩
  have jn : JdX S9 b (P + 3) S3.length (S4.length + 1) S7.length := by
    refine ⟨S2.length + 1, S2.length, S2.length + 2, m, n, E, kn, hom, od, rs, mdOf od kn, ⟨⟨?_, ?_, ?_, ?_⟩, ?_, ?_, p, oo, rr, hmd, el, by omega, by omega, by omega, by omega, by omega, by omega⟩, by omega, by omega, by omega, by omega, by omega, by omega⟩
    · rw [k95 _ (by omega) (by omega) (by omega) (by omega)]; exact pa5.pl
    · rw [k95 _ (by omega) (by omega) (by omega) (by omega)]; exact pa5.ed
    · rw [k95 _ (by omega) (by omega) (by omega) (by omega)]; exact pa5.kn
    · rw [k95 _ (by omega) (by omega) (by omega) (by omega)]; exact pa5.hm
    · rw [k95 _ (by omega) (by omega) (by omega) (by omega)]; exact g5
    · rw [k9 _ (by omega), hS8]; exact getElem?_snoc _ _
  refine ⟨S9, S3.length, S4.length + 1, S7.length, some (.int m), some (.ref S3.length), some (.ref (S4.length + 1)), ?_, bx9, ?_, fun i hi hib => ?_, ⟨?_, ?_, ?_⟩, jn, hold⟩
  · simp only [List.map_cons, List.map_nil] at e1 e2
    unfold forB b_law_l0
    cases nm <;> repeat first | simp only [bg6, bg7, e1, e2, e3, ← hS4, i2, ln, e5, eMeth, tp, ap6, tp6, ap7, tp7, eMake, eMakeK, perm3, er, ei, ap9] | walk_at "ev"
  · rw [hS9, List.length_set, l8, l7]
    exact Nat.le_trans F45.len (Nat.le_succ _)
  · rw [k95 i (by have := F45.len; omega) (by omega) (by omega) (by omega)]
    exact F45.keep i (by omega) hib
  · rw [k9 _ (by omega), k8 _ (by omega), k7 _ (by omega), hS6]
    exact List.getElem?_set_self (by omega)
  · rw [k9 _ (by omega), k8 _ (by omega), hS7]
    exact List.getElem?_set_self (by rw [hS6, List.length_set]; omega)
  · rw [hS9]
    exact List.getElem?_set_self (by omega)
end

end K0
namespace K0
open PySem L2 PyProof.Rows Ev
local macro_rules | `(tactic| walk_at "ev") => `(tactic| simp only [sFor_eq, sSeq, sRet, sRetN, sIf, sAsg, sExpr, sNext, sPar, sPar3, sCont, sBreak, sNever, eAndM, eOrM, eNotM, eIf, eChain, eOp, eUn, eC, eV, eCall, eIsi, eIsiT, kitAnyB, eTup, eLst, eBi1, aNil, aCons, tVal, tTru, tNotM, tAndM, tOrM, asB, truB, blR, gNm, iAny, bind_ok, bind_no, force_d, force_tl, force_no, gcR_same, walk_tup, walk_tl, walk_str,
  kit_ii, kit_ib, kit_is, kit_it, kit_il, kit_ss, kit_si, kit_sb, kit_st, kit_sl, kit_tt, kit_ti, kit_tb, kit_ts, kit_tl, kit_ll, kit_li, kit_lb, kit_ls, kit_lt, kit_bb, kit_bi, kit_ni, kit_nb, kit_ns, kit_nt, kit_nl, ty_non, ty_bl, ty_int, ty_str, ty_tup,
  leD_int, geD_int, ltD_int, gtD_int, addD_int, subD_int, isD_non, isNotD_non, isD_bl, non_non, non_bl, non_int, non_str, non_tup, non_ref, eqD_int, neD_int, eqD_bl, ixd_tup, len_tup, len_tl, tuple_tl, bg0, bg1, bg2, bg3, bg4, bg5, at0, at1, at2, at3, optR_some,
  List.map_cons, List.map_nil, List.replicate, List.append_nil, List.nil_append, List.cons_append, List.length_cons, List.length_nil, Nat.reduceAdd, Nat.reduceSub, Nat.reduceEqDiff, Nat.reduceLeDiff, if_true, if_false, reduceIte, List.getElem?_cons_zero, List.getElem?_cons_succ, List.set_cons_zero, List.set_cons_succ, Option.bind, Bool.not_true, Bool.not_false, Bool.false_eq_true, beq_self_eq_true, Bool.and_true, Bool.and_false, Bool.true_and, Bool.false_and, Bool.or_true, Bool.or_false, Bool.true_or, Bool.false_or, cst0, cst1, cst2, cst3, cst4, cst5, cst6, Int.reduceLE, Int.reduceLT, Int.reduceBEq, decide_true, decide_false])
section
variable {S S0 S1 S2 : Sto} {b c pl op x : Nat} {y0 y1 y2 y3 y4 y5 y6 y7 y8 y9 y10 y11 : Option D}
theorem law_l1_ok {k P t : Nat} {nm : Bool} {ps os xs : List Nat} (hB : Bs b S k) (hk : k + 1000 < LIM) (l : Lst3 S P ps os xs) (h1 : ps[t]? = some pl) (h2 : os[t]? = some op) (h3 : xs[t]? = some x) (j : JdX S b c pl op x) :
    ∃ S2, forB (gNm 11) b_law_l1 (iD t) [y0, y1, some (.ref b), some (.bl nm), some (.ref P), some (.ref (P + 1)), some (.ref (P + 2)), y7, y8, y9, y10, y11] S = .ok (.nx [y0, y1, some (.ref b), some (.bl !nm), some (.ref P), some (.ref (P + 1)), some (.ref (P + 2)), y7, y8, y9, y10, some (iD t)]) S2 ∧ Bm b S S2 (k + 1000) := by
  obtain ⟨ed, kr, ho, m, n, E, kn, hm, od, rs, md, j, _⟩ := j
  obtain ⟨S2, e, B⟩ := law_right_ok (nm := nm) j hB hk
  have i1 := ixB l.p t (d := .ref pl) (by rw [List.getElem?_map, h1]; rfl)
  have i2 := ixB l.o t (d := .ref op) (by rw [List.getElem?_map, h2]; rfl)
  have i3 := ixB l.x t (d := .ref x) (by rw [List.getElem?_map, h3]; rfl)
  refine ⟨S2, ?_, B⟩
  unfold forB b_law_l1
  cases nm <;> repeat first | simp only [i1, i2, i3, e] | walk_at "ev"
theorem law_l2_ok {ns : List Int} {k : Nat} (h0 : S[0]? = some (.rol (ns.map D.int))) : ∃ (S2 : Sto) (z2 z3 z4 z5 z6 z7 z8 z9 z10 z11 : Option D), forB (gNm 1) b_law_l2 (iD k) [some (.ref 0), y1, y2, y3, y4, y5, y6, y7, y8, y9, y10, y11] S = .ok (.nx [some (.ref 0), some (iD k), z2, z3, z4, z5, z6, z7, z8, z9, z10, z11]) S2 ∧ S2[0]? = some (.rol (ns.map D.int)) := by
  have h0l := (List.getElem?_eq_some_iff.mp h0).1
  obtain ⟨z, ec⟩ := law_cell_ok (k := k) h0
  have eb := law_box_ok z S
  obtain ⟨S1, hS1⟩ : ∃ S1, S1 = S ++ [boxO (boxOf z)] := ⟨_, rfl⟩
  have l1 : S1.length = S.length + 1 := by rw [hS1]; simp
  have B1 : Bs S.length S1 0 := ⟨boxOf z, by rw [hS1]; exact getElem?_snoc _ _, boxOf_ok z⟩
  have h01 : S1[0]? = some (.rol (ns.map D.int)) := by rw [hS1, List.getElem?_append_left h0l]; exact h0
  obtain ⟨t, S2, ht, et, B2⟩ := take_B B1 (by decide) (show 0 < 2 by decide) (by decide)
  have et' : f__law_take [.ref S.length, .int 2] S1 = .ok (.d (.int (t : Int))) S2 := et
  have l2 : S2.length = S.length + 1 := by rw [B2.len, l1]
  have h02 := B2.at_ h01 (by omega)
  obtain ⟨nm, hnm⟩ : ∃ nm : Bool, nm = ((t : Int) == 0) := ⟨_, rfl⟩
  obtain ⟨T, hT⟩ : ∃ T, T = S2 ++ [O.lst []] ++ [O.lst []] ++ [O.lst []] := ⟨_, rfl⟩
  have lT : T.length = S.length + 4 := by rw [hT]; simp [l2]
  have eT : T = S2 ++ [O.lst [], O.lst [], O.lst []] := by rw [hT]; simp
  have BT : Bs S.length T 1 := by rw [eT]; exact B2.box.app _
  have h0T : T[0]? = some (.rol (ns.map D.int)) := by rw [eT, List.getElem?_append_left (by omega)]; exact h02
  have LT : Lst3 T (S.length + 1) [] [] [] := by
    rw [eT]
    refine ⟨?_, ?_, ?_⟩
    · rw [List.getElem?_append_right (by omega), l2, show S.length + 1 - (S.length + 1) = 0 by omega]; rfl
    · rw [List.getElem?_append_right (by omega), l2, show S.length + 1 + 1 - (S.length + 1) = 1 by omega]; rfl
    · rw [List.getElem?_append_right (by omega), l2, show S.length + 1 + 2 - (S.length + 1) = 2 by omega]; rfl
  obtain ⟨U, pl, op, x, a8, a9, a10, eU, BU, lU, kU, LU, jU, oU⟩ := law_l0_ok (y0 := some (.ref 0)) (y1 := some (iD k)) (y7 := y7) (y8 := y8) (y9 := y9) (y10 := y10) (y11 := y11) (y7x := iD 0) (nm := nm) BT (by decide) (show S.length < S.length + 1 by omega) LT (by simp) (by simp) (by simp) (by omega) (fun t pl op x h => by simp at h)
  obtain ⟨V, pl', op', x', c8, c9, c10, eV, BV, lV, kV, LV, jV, oV⟩ := law_l0_ok (y0 := some (.ref 0)) (y1 := some (iD k)) (y7 := some (iD 0)) (y8 := a8) (y9 := a9) (y10 := a10) (y11 := y11) (y7x := iD 1) (nm := nm) BU (by decide) (show S.length < S.length + 1 by omega) LU (by simp) (by simp) (by simp) (by omega) (fun t p' o' x'' h1 h2 h3 => by
    cases t with
    | zero =>
      simp at h1 h2 h3
      subst h1; subst h2; subst h3
      exact jU
    | succ t => simp at h1)
  have h0V : V[0]? = some (.rol (ns.map D.int)) := by rw [kV 0 (by omega) (by omega), kU 0 (by omega) (by omega)]; exact h0T
  have jA := oV 0 pl op x rfl rfl rfl
  obtain ⟨W1, f1, C1⟩ := law_l1_ok (y0 := some (.ref 0)) (y1 := some (iD k)) (y7 := some (iD 1)) (y8 := c8) (y9 := c9) (y10 := c10) (y11 := y11) (nm := nm) (t := 0) BV (by decide) LV rfl rfl rfl jA
  have L1 := LV.fr C1.fr (by omega)
  obtain ⟨W2, f2, C2⟩ := law_l1_ok (y0 := some (.ref 0)) (y1 := some (iD k)) (y7 := some (iD 1)) (y8 := c8) (y9 := c9) (y10 := c10) (y11 := some (iD 0)) (nm := !nm) (t := 1) C1.box (by decide) L1 rfl rfl rfl (jV.fr C1.fr)
  have L2 := L1.fr C2.fr (by omega)
  obtain ⟨W3, f3, C3⟩ := law_l1_ok (y0 := some (.ref 0)) (y1 := some (iD k)) (y7 := some (iD 1)) (y8 := c8) (y9 := c9) (y10 := c10) (y11 := some (iD 1)) (nm := !!nm) (t := 0) C2.box (by decide) L2 rfl rfl rfl ((jA.fr C1.fr).fr C2.fr)
  have h0W := C3.at_ (C2.at_ (C1.at_ h0V (by omega)) (by omega)) (by omega)
  refine ⟨W3, some (.ref S.length), some (.bl !!!nm), some (.ref (S.length + 1)), some (.ref (S.length + 1 + 1)), some (.ref (S.length + 1 + 2)), some (iD 1), c8, c9, c10, some (iD 0), ?_, h0W⟩
  have r2 : iRange1 (eC (.int 2)) [some (.ref 0), some (iD k), some (.ref S.length), some (.bl nm), some (.ref (S.length + 1)), some (.ref (S.length + 1 + 1)), some (.ref (S.length + 1 + 2)), y7, y8, y9, y10, y11] T = .ok ⟨[iD 0, iD 1], fun _ => True⟩ T := range1_nat (n := 2) rfl (by omega)
  have lp0 : loopF (fun _ => True) (forB (gNm 7) b_law_l0) [iD 0, iD 1] [some (.ref 0), some (iD k), some (.ref S.length), some (.bl nm), some (.ref (S.length + 1)), some (.ref (S.length + 1 + 1)), some (.ref (S.length + 1 + 2)), y7, y8, y9, y10, y11] T = .ok (.nx [some (.ref 0), some (iD k), some (.ref S.length), some (.bl nm), some (.ref (S.length + 1)), some (.ref (S.length + 1 + 1)), some (.ref (S.length + 1 + 2)), some (iD 1), c8, c9, c10, y11]) V := by
    rw [lp_cons, eU, bind_ok]
    simp only
    rw [lp_cons, eV, bind_ok]
    exact lp_nil
  have lp1 : loopF (fun _ => True) (forB (gNm 11) b_law_l1) [.int 0, .int 1, .int 0] [some (.ref 0), some (iD k), some (.ref S.length), some (.bl nm), some (.ref (S.length + 1)), some (.ref (S.length + 1 + 1)), some (.ref (S.length + 1 + 2)), some (iD 1), c8, c9, c10, y11] V = .ok (.nx [some (.ref 0), some (iD k), some (.ref S.length), some (.bl !!!nm), some (.ref (S.length + 1)), some (.ref (S.length + 1 + 1)), some (.ref (S.length + 1 + 2)), some (iD 1), c8, c9, c10, some (iD 0)]) W3 := by
    have f1' : forB (gNm 11) b_law_l1 (.int 0) _ V = _ := f1
    have f2' : forB (gNm 11) b_law_l1 (.int 1) _ W1 = _ := f2
    have f3' : forB (gNm 11) b_law_l1 (.int 0) _ W2 = _ := f3
    rw [lp_cons, f1', bind_ok]
    simp only
    rw [lp_cons, f2', bind_ok]
    simp only
    rw [lp_cons, f3', bind_ok]
    exact lp_nil
  have eT' : S2 ++ [O.lst []] ++ [O.lst []] ++ [O.lst []] = T := hT.symm
  have q1 : (S2 ++ [O.lst []]).length = S.length + 1 + 1 := by simp [l2]
  have q2 : (S2 ++ [O.lst []] ++ [O.lst []]).length = S.length + 1 + 2 := by simp [l2]
  have hS1' : S ++ [O.lst [.int (boxOf z).a, .bl (boxOf z).g, .int (boxOf z).m, .int 0]] = S1 := hS1.symm
  unfold forB b_law_l2
  repeat first | simp only [ec, eb, hS1', et', ← hnm, l2, q1, q2, eT', gTp, gsCons, gsNil, seqD_tup, r2, lp0, lp1] | walk_at "ev"
theorem law_loop {ns : List Int} : ∀ (w k : Nat) (S : Sto) (y1 y2 y3 y4 y5 y6 y7 y8 y9 y10 y11 : Option D), S[0]? = some (.rol (ns.map D.int)) → ∃ (S2 : Sto) (z1 z2 z3 z4 z5 z6 z7 z8 z9 z10 z11 : Option D), loopF (fun _ => True) (forB (gNm 1) b_law_l2) ((List.range' k w).map iD) [some (.ref 0), y1, y2, y3, y4, y5, y6, y7, y8, y9, y10, y11] S = .ok (.nx [some (.ref 0), z1, z2, z3, z4, z5, z6, z7, z8, z9, z10, z11]) S2
  | 0, k, S, y1, y2, y3, y4, y5, y6, y7, y8, y9, y10, y11, h => ⟨S, y1, y2, y3, y4, y5, y6, y7, y8, y9, y10, y11, lp_nil⟩
  | w + 1, k, S, y1, y2, y3, y4, y5, y6, y7, y8, y9, y10, y11, h => by
    obtain ⟨S1, z2, z3, z4, z5, z6, z7, z8, z9, z10, z11, e, h1⟩ := law_l2_ok (k := k) (y1 := y1) (y2 := y2) (y3 := y3) (y4 := y4) (y5 := y5) (y6 := y6) (y7 := y7) (y8 := y8) (y9 := y9) (y10 := y10) (y11 := y11) h
    obtain ⟨S2, x1, x2, x3, x4, x5, x6, x7, x8, x9, x10, x11, e2⟩ := law_loop w (k + 1) S1 (some (iD k)) z2 z3 z4 z5 z6 z7 z8 z9 z10 z11 h1
    refine ⟨S2, x1, x2, x3, x4, x5, x6, x7, x8, x9, x10, x11, ?_⟩
    rw [List.range'_succ, List.map_cons, lp_cons, e, bind_ok]
    exact e2
theorem law_value (ns : List Int) (hl : ns.length ≤ 63) (hz : ∀ z ∈ ns, Builtin.Int.intBits z ≤ 1048576) : ∃ S', f_law [.ref 0] [.rol (ns.map .int)] = .ok (.d (.bl true)) S' := by
  obtain ⟨S, hS⟩ : ∃ S : Sto, S = [.rol (ns.map .int)] := ⟨_, rfl⟩
  have h0 : S[0]? = some (.rol (ns.map .int)) := by rw [hS]; rfl
  rw [← hS]
  have ln : bLen (.d (.ref 0)) S = .ok (.d (.int (ns.length : Nat))) S := by
    have la : Ev.listAt S 0 = some (ns.map D.int) := by unfold Ev.listAt; rw [h0]
    unfold bLen
    simp only [h0, la, List.length_map]
  obtain ⟨w, hw⟩ : ∃ w : Nat, w = max 2 (min 4 ns.length) := ⟨_, rfl⟩
  have mx : ∀ i j : Int, bMax2 (.int i) (.int j) S = .ok (.d (.int (if j > i then j else i))) S := fun _ _ => rfl
  have r1 : iRange1 (eOp bMax2 (eC (.int 2)) (eOp bMin2 (eC (.int 4)) (eBi1 bLen (eV 0)))) [some (.ref 0), none, none, none, none, none, none, none, none, none, none, none] S = .ok ⟨(List.range w).map iD, fun _ => True⟩ S := range1_nat (by
    repeat first | simp only [ln, min_int, mx] | walk_at "ev"
    congr 3
    rw [hw]
    split <;> split <;> omega) (by omega)
  rw [List.range_eq_range'] at r1
  obtain ⟨S2, x1, x2, x3, x4, x5, x6, x7, x8, x9, x10, x11, e⟩ := law_loop (ns := ns) w 0 S none none none none none none none none none none none h0
  have hg : ∃ S', gcR S (.d (.bl true)) S2 = .ok (.d (.bl true)) S' := by
    unfold gcR
    split
    · exact ⟨_, rfl⟩
    · exact ⟨_, rfl⟩
  obtain ⟨S', g⟩ := hg
  refine ⟨S', ?_⟩
  unfold f_law b_law runF
  repeat first | simp only [r1, e, g] | walk_at "ev"
end

end K0
namespace K0
open PySem L2 PyProof.Rows Ev
theorem all_mk {l : PySem.W.OpenLaw} {w : World} {K : PySem.W.Frag} {h : Heap} {mg : Str → Option Value} {fa : Addr} (X : K.In h) (G : h.Ns mainGlobals mg) (hfa : mg "law" = some (.ref fa)) (nl : K.all (fun p => noList p.2) = true)
    {A0 A1 A2 A3 A4 A5 A6 A7 A8 A9 A10 A11 A12 A13 A14 A15 A16 A17 A18 A19 A20 A21 A22 A23 A24 A25 A26 A27 A28 A29 A30 A31 A32 A33 A34 A35 A36 A37 A38 A39 A40 A41 A42 A43 A44 A45 A46 CReader PSHUT : Addr} {od0 od1 od2 od3 od4 od5 od6 od7 od8 od9 od10 od11 od12 od13 od14 od15 od16 od17 od18 od19 od20 od21 od22 od23 od24 od25 od26 od27 od28 od29 od30 od31 od32 od33 od34 od35 od36 od37 od38 od39 od40 od41 od42 od43 od44 od45 od46 an0 an1 an2 an3 an4 an5 an6 an7 an8 an9 an10 an11 an12 an13 an14 an15 an16 an17 an18 an19 an20 an21 an22 an23 an24 an25 an26 an27 an28 an29 an30 an31 an32 an33 an34 an35 an36 an37 an38 an39 an40 an41 an42 an43 an44 an45 an46 ESHUT : Option Addr} {sl0 sl1 sl2 sl3 sl4 sl5 sl6 sl7 sl8 sl9 sl10 sl11 sl12 sl13 sl14 sl15 sl16 sl17 sl18 sl19 sl20 sl21 sl22 sl23 sl24 sl25 sl26 sl27 sl28 sl29 sl30 sl31 sl32 sl33 sl34 sl35 sl36 sl37 sl38 sl39 sl40 sl41 sl42 sl43 sl44 sl45 sl46 ZSHUT : Array (Option Value)} {oc0 oc1 oc2 oc3 oc4 oc5 oc6 oc7 oc8 oc9 oc10 oc11 oc12 oc13 oc14 oc15 oc16 oc17 oc18 oc19 oc20 oc21 oc22 oc23 oc24 oc25 oc26 oc27 oc28 oc29 oc30 oc31 oc32 oc33 oc34 oc35 oc36 oc37 oc38 oc39 oc40 oc41 oc42 oc43 oc44 oc45 oc46 kV0 kV1 kV2 kV3 kV4 kV5 kV6 kV7 kV8 kV9 kV10 kV11 kV12 kV13 kV14 kV15 kV16 kV17 kV18 kV19 kV20 kV21 kV22 kV23 kV24 kV25 kV26 kV27 kV28 kV29 kV30 kV31 kV32 kV33 kV34 kV35 kV36 kV37 kV38 kV39 kV40 kV41 kV42 kV43 kV44 kV45 kV46 dc0 dc1 dc2 dc3 dc4 dc5 dc6 dc7 dc8 dc9 dc10 dc11 dc12 dc13 dc14 dc15 dc16 dc17 dc18 dc19 dc20 dc21 dc22 dc23 dc24 dc25 dc26 dc27 dc28 dc29 dc30 dc31 dc32 dc33 dc34 dc35 dc36 dc37 dc38 dc39 dc40 dc41 dc42 dc43 dc44 dc45 dc46 pm0 pm1 pm2 pm3 pm4 pm5 pm6 pm7 pm8 pm9 pm10 pm11 pm12 pm13 pm14 pm15 pm16 pm17 pm18 pm19 pm20 pm21 pm22 pm23 pm24 pm25 pm26 pm27 pm28 pm29 pm30 pm31 pm32 pm33 pm34 pm35 pm36 pm37 pm38 pm39 pm40 pm41 pm42 pm43 pm44 pm45 pm46 cd0 cd1 cd2 cd3 cd4 cd5 cd6 cd7 cd8 cd9 cd10 cd11 cd12 cd13 cd14 cd15 cd16 cd17 cd18 cd19 cd20 cd21 cd22 cd23 cd24 cd25 cd26 cd27 cd28 cd29 cd30 cd31 cd32 cd33 cd34 cd35 cd36 cd37 cd38 cd39 cd40 cd41 cd42 cd43 cd44 cd45 cd46 ct0 ct1 ct2 ct3 ct4 ct5 ct6 ct7 ct8 ct9 ct10 ct11 ct12 ct13 ct14 ct15 ct16 ct17 ct18 ct19 ct20 ct21 ct22 ct23 ct24 ct25 ct26 ct27 ct28 ct29 ct30 ct31 ct32 ct33 ct34 ct35 ct36 ct37 ct38 ct39 ct40 ct41 ct42 ct43 ct44 ct45 ct46 : Value} {TSIGNS TLEAST_SIGNS TMOST_SIGNS TMOST_TEXT TMOST_MARK TMOST_KIND TMARK TOPEN TSAY TSHUT TMOST_STATES TMOST_EVENTS : Tok} {VSHUT : Nat}
    (aCReader : PySem.W.nsIn K mainGlobals "Reader" = some (some (.ref CReader)))
    (a0 : PySem.W.nsIn K mainGlobals "is_integer" = some (some (.ref A0)))
    (l0 : K.lookup A0 = some ⟨oc0, od0, .func (PySem.W.fnOf "is_integer" "is_integer" (defArgs s_is_integer) (defBody s_is_integer) (defScope s_is_integer) .none kV0 dc0 pm0 an0 cd0 ct0), sl0⟩) (c0 : PySem.W.codeIn K cd0 "is_integer" = true) (k0 : PySem.W.keepIn K (.ref A0) = true)
    (a1 : PySem.W.nsIn K mainGlobals "is_between" = some (some (.ref A1)))
    (l1 : K.lookup A1 = some ⟨oc1, od1, .func (PySem.W.fnOf "is_between" "is_between" (defArgs s_is_between) (defBody s_is_between) (defScope s_is_between) .none kV1 dc1 pm1 an1 cd1 ct1), sl1⟩) (c1 : PySem.W.codeIn K cd1 "is_between" = true) (k1 : PySem.W.keepIn K (.ref A1) = true)
    (a2 : PySem.W.nsIn K mainGlobals "is_tuple" = some (some (.ref A2)))
    (l2 : K.lookup A2 = some ⟨oc2, od2, .func (PySem.W.fnOf "is_tuple" "is_tuple" (defArgs s_is_tuple) (defBody s_is_tuple) (defScope s_is_tuple) .none kV2 dc2 pm2 an2 cd2 ct2), sl2⟩) (c2 : PySem.W.codeIn K cd2 "is_tuple" = true) (k2 : PySem.W.keepIn K (.ref A2) = true)
    (a3 : PySem.W.nsIn K mainGlobals "is_tuple_up_to" = some (some (.ref A3)))
    (l3 : K.lookup A3 = some ⟨oc3, od3, .func (PySem.W.fnOf "is_tuple_up_to" "is_tuple_up_to" (defArgs s_is_tuple_up_to) (defBody s_is_tuple_up_to) (defScope s_is_tuple_up_to) .none kV3 dc3 pm3 an3 cd3 ct3), sl3⟩) (c3 : PySem.W.codeIn K cd3 "is_tuple_up_to" = true) (k3 : PySem.W.keepIn K (.ref A3) = true)
    (a4 : PySem.W.nsIn K mainGlobals "is_ascending" = some (some (.ref A4)))
    (l4 : K.lookup A4 = some ⟨oc4, od4, .func (PySem.W.fnOf "is_ascending" "is_ascending" (defArgs s_is_ascending) (defBody s_is_ascending) (defScope s_is_ascending) .none kV4 dc4 pm4 an4 cd4 ct4), sl4⟩) (c4 : PySem.W.codeIn K cd4 "is_ascending" = true) (k4 : PySem.W.keepIn K (.ref A4) = true)
    (a5 : PySem.W.nsIn K mainGlobals "is_set" = some (some (.ref A5)))
    (l5 : K.lookup A5 = some ⟨oc5, od5, .func (PySem.W.fnOf "is_set" "is_set" (defArgs s_is_set) (defBody s_is_set) (defScope s_is_set) .none kV5 dc5 pm5 an5 cd5 ct5), sl5⟩) (c5 : PySem.W.codeIn K cd5 "is_set" = true) (k5 : PySem.W.keepIn K (.ref A5) = true)
    (a6 : PySem.W.nsIn K mainGlobals "is_many" = some (some (.ref A6)))
    (l6 : K.lookup A6 = some ⟨oc6, od6, .func (PySem.W.fnOf "is_many" "is_many" (defArgs s_is_many) (defBody s_is_many) (defScope s_is_many) .none kV6 dc6 pm6 an6 cd6 ct6), sl6⟩) (c6 : PySem.W.codeIn K cd6 "is_many" = true) (k6 : PySem.W.keepIn K (.ref A6) = true)
    (a7 : PySem.W.nsIn K mainGlobals "is_sign" = some (some (.ref A7)))
    (l7 : K.lookup A7 = some ⟨oc7, od7, .func (PySem.W.fnOf "is_sign" "is_sign" (defArgs s_is_sign) (defBody s_is_sign) (defScope s_is_sign) .none kV7 dc7 pm7 an7 cd7 ct7), sl7⟩) (c7 : PySem.W.codeIn K cd7 "is_sign" = true) (k7 : PySem.W.keepIn K (.ref A7) = true)
    (a8 : PySem.W.nsIn K mainGlobals "is_text_up_to" = some (some (.ref A8)))
    (l8 : K.lookup A8 = some ⟨oc8, od8, .func (PySem.W.fnOf "is_text_up_to" "is_text_up_to" (defArgs s_is_text_up_to) (defBody s_is_text_up_to) (defScope s_is_text_up_to) .none kV8 dc8 pm8 an8 cd8 ct8), sl8⟩) (c8 : PySem.W.codeIn K cd8 "is_text_up_to" = true) (k8 : PySem.W.keepIn K (.ref A8) = true)
    (a9 : PySem.W.nsIn K mainGlobals "is_text" = some (some (.ref A9)))
    (l9 : K.lookup A9 = some ⟨oc9, od9, .func (PySem.W.fnOf "is_text" "is_text" (defArgs s_is_text) (defBody s_is_text) (defScope s_is_text) .none kV9 dc9 pm9 an9 cd9 ct9), sl9⟩) (c9 : PySem.W.codeIn K cd9 "is_text" = true) (k9 : PySem.W.keepIn K (.ref A9) = true)
    (a10 : PySem.W.nsIn K mainGlobals "is_event" = some (some (.ref A10)))
    (l10 : K.lookup A10 = some ⟨oc10, od10, .func (PySem.W.fnOf "is_event" "is_event" (defArgs s_is_event) (defBody s_is_event) (defScope s_is_event) .none kV10 dc10 pm10 an10 cd10 ct10), sl10⟩) (c10 : PySem.W.codeIn K cd10 "is_event" = true) (k10 : PySem.W.keepIn K (.ref A10) = true)
    (a11 : PySem.W.nsIn K mainGlobals "is_entry" = some (some (.ref A11)))
    (l11 : K.lookup A11 = some ⟨oc11, od11, .func (PySem.W.fnOf "is_entry" "is_entry" (defArgs s_is_entry) (defBody s_is_entry) (defScope s_is_entry) .none kV11 dc11 pm11 an11 cd11 ct11), sl11⟩) (c11 : PySem.W.codeIn K cd11 "is_entry" = true) (k11 : PySem.W.keepIn K (.ref A11) = true)
    (a12 : PySem.W.nsIn K mainGlobals "are_rows" = some (some (.ref A12)))
    (l12 : K.lookup A12 = some ⟨oc12, od12, .func (PySem.W.fnOf "are_rows" "are_rows" (defArgs s_are_rows) (defBody s_are_rows) (defScope s_are_rows) .none kV12 dc12 pm12 an12 cd12 ct12), sl12⟩) (c12 : PySem.W.codeIn K cd12 "are_rows" = true) (k12 : PySem.W.keepIn K (.ref A12) = true)
    (a13 : PySem.W.nsIn K mainGlobals "states_in" = some (some (.ref A13)))
    (l13 : K.lookup A13 = some ⟨oc13, od13, .func (PySem.W.fnOf "states_in" "states_in" (defArgs s_states_in) (defBody s_states_in) (defScope s_states_in) .none kV13 dc13 pm13 an13 cd13 ct13), sl13⟩) (c13 : PySem.W.codeIn K cd13 "states_in" = true) (k13 : PySem.W.keepIn K (.ref A13) = true)
    (a14 : PySem.W.nsIn K mainGlobals "mode_behind" = some (some (.ref A14)))
    (l14 : K.lookup A14 = some ⟨oc14, od14, .func (PySem.W.fnOf "mode_behind" "mode_behind" (defArgs s_mode_behind) (defBody s_mode_behind) (defScope s_mode_behind) .none kV14 dc14 pm14 an14 cd14 ct14), sl14⟩) (c14 : PySem.W.codeIn K cd14 "mode_behind" = true) (k14 : PySem.W.keepIn K (.ref A14) = true)
    (a15 : PySem.W.nsIn K mainGlobals "modes_in" = some (some (.ref A15)))
    (l15 : K.lookup A15 = some ⟨oc15, od15, .func (PySem.W.fnOf "modes_in" "modes_in" (defArgs s_modes_in) (defBody s_modes_in) (defScope s_modes_in) .none kV15 dc15 pm15 an15 cd15 ct15), sl15⟩) (c15 : PySem.W.codeIn K cd15 "modes_in" = true) (k15 : PySem.W.keepIn K (.ref A15) = true)
    (a16 : PySem.W.nsIn K mainGlobals "are_ends" = some (some (.ref A16)))
    (l16 : K.lookup A16 = some ⟨oc16, od16, .func (PySem.W.fnOf "are_ends" "are_ends" (defArgs s_are_ends) (defBody s_are_ends) (defScope s_are_ends) .none kV16 dc16 pm16 an16 cd16 ct16), sl16⟩) (c16 : PySem.W.codeIn K cd16 "are_ends" = true) (k16 : PySem.W.keepIn K (.ref A16) = true)
    (a17 : PySem.W.findIn K (.ref CReader) "__init__" = some (some (.ref A17))) (i17 : PySem.W.isFn K (.ref A17) = true)
    (l17 : K.lookup A17 = some ⟨oc17, od17, .func (PySem.W.fnOf "__init__" "Reader.__init__" (defArgs s_Reader___init__) (defBody s_Reader___init__) (defScope s_Reader___init__) .none kV17 dc17 pm17 an17 cd17 ct17), sl17⟩) (c17 : PySem.W.codeIn K cd17 "Reader.__init__" = true) (k17 : PySem.W.keepIn K (.ref A17) = true)
    (a18 : PySem.W.nsIn K mainGlobals "check_state" = some (some (.ref A18)))
    (l18 : K.lookup A18 = some ⟨oc18, od18, .func (PySem.W.fnOf "check_state" "check_state" (defArgs s_check_state) (defBody s_check_state) (defScope s_check_state) .none kV18 dc18 pm18 an18 cd18 ct18), sl18⟩) (c18 : PySem.W.codeIn K cd18 "check_state" = true) (k18 : PySem.W.keepIn K (.ref A18) = true)
    (a19 : PySem.W.nsIn K mainGlobals "check_text" = some (some (.ref A19)))
    (l19 : K.lookup A19 = some ⟨oc19, od19, .func (PySem.W.fnOf "check_text" "check_text" (defArgs s_check_text) (defBody s_check_text) (defScope s_check_text) .none kV19 dc19 pm19 an19 cd19 ct19), sl19⟩) (c19 : PySem.W.codeIn K cd19 "check_text" = true) (k19 : PySem.W.keepIn K (.ref A19) = true)
    (a20 : PySem.W.nsIn K mainGlobals "modes" = some (some (.ref A20)))
    (l20 : K.lookup A20 = some ⟨oc20, od20, .func (PySem.W.fnOf "modes" "modes" (defArgs s_modes) (defBody s_modes) (defScope s_modes) .none kV20 dc20 pm20 an20 cd20 ct20), sl20⟩) (c20 : PySem.W.codeIn K cd20 "modes" = true) (k20 : PySem.W.keepIn K (.ref A20) = true)
    (a21 : PySem.W.nsIn K mainGlobals "entry_for" = some (some (.ref A21)))
    (l21 : K.lookup A21 = some ⟨oc21, od21, .func (PySem.W.fnOf "entry_for" "entry_for" (defArgs s_entry_for) (defBody s_entry_for) (defScope s_entry_for) .none kV21 dc21 pm21 an21 cd21 ct21), sl21⟩) (c21 : PySem.W.codeIn K cd21 "entry_for" = true) (k21 : PySem.W.keepIn K (.ref A21) = true)
    (a22 : PySem.W.nsIn K mainGlobals "read_on" = some (some (.ref A22)))
    (l22 : K.lookup A22 = some ⟨oc22, od22, .func (PySem.W.fnOf "read_on" "read_on" (defArgs s_read_on) (defBody s_read_on) (defScope s_read_on) .none kV22 dc22 pm22 an22 cd22 ct22), sl22⟩) (c22 : PySem.W.codeIn K cd22 "read_on" = true) (k22 : PySem.W.keepIn K (.ref A22) = true)
    (a23 : PySem.W.nsIn K mainGlobals "read_from" = some (some (.ref A23)))
    (l23 : K.lookup A23 = some ⟨oc23, od23, .func (PySem.W.fnOf "read_from" "read_from" (defArgs s_read_from) (defBody s_read_from) (defScope s_read_from) .none kV23 dc23 pm23 an23 cd23 ct23), sl23⟩) (c23 : PySem.W.codeIn K cd23 "read_from" = true) (k23 : PySem.W.keepIn K (.ref A23) = true)
    (a24 : PySem.W.nsIn K mainGlobals "reading_of" = some (some (.ref A24)))
    (l24 : K.lookup A24 = some ⟨oc24, od24, .func (PySem.W.fnOf "reading_of" "reading_of" (defArgs s_reading_of) (defBody s_reading_of) (defScope s_reading_of) .none kV24 dc24 pm24 an24 cd24 ct24), sl24⟩) (c24 : PySem.W.codeIn K cd24 "reading_of" = true) (k24 : PySem.W.keepIn K (.ref A24) = true)
    (a25 : PySem.W.nsIn K mainGlobals "reads" = some (some (.ref A25)))
    (l25 : K.lookup A25 = some ⟨oc25, od25, .func (PySem.W.fnOf "reads" "reads" (defArgs s_reads) (defBody s_reads) (defScope s_reads) .none kV25 dc25 pm25 an25 cd25 ct25), sl25⟩) (c25 : PySem.W.codeIn K cd25 "reads" = true) (k25 : PySem.W.keepIn K (.ref A25) = true)
    (a26 : PySem.W.nsIn K mainGlobals "items_in" = some (some (.ref A26)))
    (l26 : K.lookup A26 = some ⟨oc26, od26, .func (PySem.W.fnOf "items_in" "items_in" (defArgs s_items_in) (defBody s_items_in) (defScope s_items_in) .none kV26 dc26 pm26 an26 cd26 ct26), sl26⟩) (c26 : PySem.W.codeIn K cd26 "items_in" = true) (k26 : PySem.W.keepIn K (.ref A26) = true)
    (a27 : PySem.W.nsIn K mainGlobals "items" = some (some (.ref A27)))
    (l27 : K.lookup A27 = some ⟨oc27, od27, .func (PySem.W.fnOf "items" "items" (defArgs s_items) (defBody s_items) (defScope s_items) .none kV27 dc27 pm27 an27 cd27 ct27), sl27⟩) (c27 : PySem.W.codeIn K cd27 "items" = true) (k27 : PySem.W.keepIn K (.ref A27) = true)
    (a28 : PySem.W.nsIn K mainGlobals "stuck_at" = some (some (.ref A28)))
    (l28 : K.lookup A28 = some ⟨oc28, od28, .func (PySem.W.fnOf "stuck_at" "stuck_at" (defArgs s_stuck_at) (defBody s_stuck_at) (defScope s_stuck_at) .none kV28 dc28 pm28 an28 cd28 ct28), sl28⟩) (c28 : PySem.W.codeIn K cd28 "stuck_at" = true) (k28 : PySem.W.keepIn K (.ref A28) = true)
    (a29 : PySem.W.nsIn K mainGlobals "_law_cell" = some (some (.ref A29)))
    (l29 : K.lookup A29 = some ⟨oc29, od29, .func (PySem.W.fnOf "_law_cell" "_law_cell" (defArgs s__law_cell) (defBody s__law_cell) (defScope s__law_cell) .none kV29 dc29 pm29 an29 cd29 ct29), sl29⟩) (c29 : PySem.W.codeIn K cd29 "_law_cell" = true) (k29 : PySem.W.keepIn K (.ref A29) = true)
    (a30 : PySem.W.nsIn K mainGlobals "_law_box" = some (some (.ref A30)))
    (l30 : K.lookup A30 = some ⟨oc30, od30, .func (PySem.W.fnOf "_law_box" "_law_box" (defArgs s__law_box) (defBody s__law_box) (defScope s__law_box) .none kV30 dc30 pm30 an30 cd30 ct30), sl30⟩) (c30 : PySem.W.codeIn K cd30 "_law_box" = true) (k30 : PySem.W.keepIn K (.ref A30) = true)
    (a31 : PySem.W.nsIn K mainGlobals "_law_take" = some (some (.ref A31)))
    (l31 : K.lookup A31 = some ⟨oc31, od31, .func (PySem.W.fnOf "_law_take" "_law_take" (defArgs s__law_take) (defBody s__law_take) (defScope s__law_take) .none kV31 dc31 pm31 an31 cd31 ct31), sl31⟩) (c31 : PySem.W.codeIn K cd31 "_law_take" = true) (k31 : PySem.W.keepIn K (.ref A31) = true)
    (a32 : PySem.W.nsIn K mainGlobals "_law_pick" = some (some (.ref A32)))
    (l32 : K.lookup A32 = some ⟨oc32, od32, .func (PySem.W.fnOf "_law_pick" "_law_pick" (defArgs s__law_pick) (defBody s__law_pick) (defScope s__law_pick) .none kV32 dc32 pm32 an32 cd32 ct32), sl32⟩) (c32 : PySem.W.codeIn K cd32 "_law_pick" = true) (k32 : PySem.W.keepIn K (.ref A32) = true)
    (a33 : PySem.W.nsIn K mainGlobals "_law_same" = some (some (.ref A33)))
    (l33 : K.lookup A33 = some ⟨oc33, od33, .func (PySem.W.fnOf "_law_same" "_law_same" (defArgs s__law_same) (defBody s__law_same) (defScope s__law_same) .none kV33 dc33 pm33 an33 cd33 ct33), sl33⟩) (c33 : PySem.W.codeIn K cd33 "_law_same" = true) (k33 : PySem.W.keepIn K (.ref A33) = true)
    (a34 : PySem.W.nsIn K mainGlobals "_law_events" = some (some (.ref A34)))
    (l34 : K.lookup A34 = some ⟨oc34, od34, .func (PySem.W.fnOf "_law_events" "_law_events" (defArgs s__law_events) (defBody s__law_events) (defScope s__law_events) .none kV34 dc34 pm34 an34 cd34 ct34), sl34⟩) (c34 : PySem.W.codeIn K cd34 "_law_events" = true) (k34 : PySem.W.keepIn K (.ref A34) = true)
    (a35 : PySem.W.nsIn K mainGlobals "_law_planned" = some (some (.ref A35)))
    (l35 : K.lookup A35 = some ⟨oc35, od35, .func (PySem.W.fnOf "_law_planned" "_law_planned" (defArgs s__law_planned) (defBody s__law_planned) (defScope s__law_planned) .none kV35 dc35 pm35 an35 cd35 ct35), sl35⟩) (c35 : PySem.W.codeIn K cd35 "_law_planned" = true) (k35 : PySem.W.keepIn K (.ref A35) = true)
    (a36 : PySem.W.nsIn K mainGlobals "_law_words" = some (some (.ref A36)))
    (l36 : K.lookup A36 = some ⟨oc36, od36, .func (PySem.W.fnOf "_law_words" "_law_words" (defArgs s__law_words) (defBody s__law_words) (defScope s__law_words) .none kV36 dc36 pm36 an36 cd36 ct36), sl36⟩) (c36 : PySem.W.codeIn K cd36 "_law_words" = true) (k36 : PySem.W.keepIn K (.ref A36) = true)
    (a37 : PySem.W.nsIn K mainGlobals "_law_rows" = some (some (.ref A37)))
    (l37 : K.lookup A37 = some ⟨oc37, od37, .func (PySem.W.fnOf "_law_rows" "_law_rows" (defArgs s__law_rows) (defBody s__law_rows) (defScope s__law_rows) .none kV37 dc37 pm37 an37 cd37 ct37), sl37⟩) (c37 : PySem.W.codeIn K cd37 "_law_rows" = true) (k37 : PySem.W.keepIn K (.ref A37) = true)
    (a38 : PySem.W.nsIn K mainGlobals "_law_order" = some (some (.ref A38)))
    (l38 : K.lookup A38 = some ⟨oc38, od38, .func (PySem.W.fnOf "_law_order" "_law_order" (defArgs s__law_order) (defBody s__law_order) (defScope s__law_order) .none kV38 dc38 pm38 an38 cd38 ct38), sl38⟩) (c38 : PySem.W.codeIn K cd38 "_law_order" = true) (k38 : PySem.W.keepIn K (.ref A38) = true)
    (a39 : PySem.W.nsIn K mainGlobals "_law_items" = some (some (.ref A39)))
    (l39 : K.lookup A39 = some ⟨oc39, od39, .func (PySem.W.fnOf "_law_items" "_law_items" (defArgs s__law_items) (defBody s__law_items) (defScope s__law_items) .none kV39 dc39 pm39 an39 cd39 ct39), sl39⟩) (c39 : PySem.W.codeIn K cd39 "_law_items" = true) (k39 : PySem.W.keepIn K (.ref A39) = true)
    (a40 : PySem.W.nsIn K mainGlobals "_law_behind" = some (some (.ref A40)))
    (l40 : K.lookup A40 = some ⟨oc40, od40, .func (PySem.W.fnOf "_law_behind" "_law_behind" (defArgs s__law_behind) (defBody s__law_behind) (defScope s__law_behind) .none kV40 dc40 pm40 an40 cd40 ct40), sl40⟩) (c40 : PySem.W.codeIn K cd40 "_law_behind" = true) (k40 : PySem.W.keepIn K (.ref A40) = true)
    (a41 : PySem.W.nsIn K mainGlobals "_law_flat" = some (some (.ref A41)))
    (l41 : K.lookup A41 = some ⟨oc41, od41, .func (PySem.W.fnOf "_law_flat" "_law_flat" (defArgs s__law_flat) (defBody s__law_flat) (defScope s__law_flat) .none kV41 dc41 pm41 an41 cd41 ct41), sl41⟩) (c41 : PySem.W.codeIn K cd41 "_law_flat" = true) (k41 : PySem.W.keepIn K (.ref A41) = true)
    (a42 : PySem.W.nsIn K mainGlobals "_law_told" = some (some (.ref A42)))
    (l42 : K.lookup A42 = some ⟨oc42, od42, .func (PySem.W.fnOf "_law_told" "_law_told" (defArgs s__law_told) (defBody s__law_told) (defScope s__law_told) .none kV42 dc42 pm42 an42 cd42 ct42), sl42⟩) (c42 : PySem.W.codeIn K cd42 "_law_told" = true) (k42 : PySem.W.keepIn K (.ref A42) = true)
    (a43 : PySem.W.nsIn K mainGlobals "_law_text_right" = some (some (.ref A43)))
    (l43 : K.lookup A43 = some ⟨oc43, od43, .func (PySem.W.fnOf "_law_text_right" "_law_text_right" (defArgs s__law_text_right) (defBody s__law_text_right) (defScope s__law_text_right) .none kV43 dc43 pm43 an43 cd43 ct43), sl43⟩) (c43 : PySem.W.codeIn K cd43 "_law_text_right" = true) (k43 : PySem.W.keepIn K (.ref A43) = true)
    (a44 : PySem.W.nsIn K mainGlobals "_law_inner_right" = some (some (.ref A44)))
    (l44 : K.lookup A44 = some ⟨oc44, od44, .func (PySem.W.fnOf "_law_inner_right" "_law_inner_right" (defArgs s__law_inner_right) (defBody s__law_inner_right) (defScope s__law_inner_right) .none kV44 dc44 pm44 an44 cd44 ct44), sl44⟩) (c44 : PySem.W.codeIn K cd44 "_law_inner_right" = true) (k44 : PySem.W.keepIn K (.ref A44) = true)
    (a45 : PySem.W.nsIn K mainGlobals "_law_right" = some (some (.ref A45)))
    (l45 : K.lookup A45 = some ⟨oc45, od45, .func (PySem.W.fnOf "_law_right" "_law_right" (defArgs s__law_right) (defBody s__law_right) (defScope s__law_right) .none kV45 dc45 pm45 an45 cd45 ct45), sl45⟩) (c45 : PySem.W.codeIn K cd45 "_law_right" = true) (k45 : PySem.W.keepIn K (.ref A45) = true)
    (a46 : PySem.W.nsIn K mainGlobals "law" = some (some (.ref A46)))
    (l46 : K.lookup A46 = some ⟨oc46, od46, .func (PySem.W.fnOf "law" "law" (defArgs s_law) (defBody s_law) (defScope s_law) .none kV46 dc46 pm46 an46 cd46 ct46), sl46⟩) (c46 : PySem.W.codeIn K cd46 "law" = true) (k46 : PySem.W.keepIn K (.ref A46) = true)
    (pgReader : PySem.W.plainGet K CReader Str.empty = true) (hdReader : PySem.W.hasDictIn K CReader = true) (poReader : PySem.W.plainOver K CReader = true) (saReader : PySem.W.findIn K (.ref CReader) "__setattr__" = some (some (.builtin "object.__setattr__"))) (mkReader : PySem.W.makesIn K CReader = true) (kcReader : PySem.W.keepIn K (.ref CReader) = true)
    (naReadermany : PySem.W.findIn K (.ref CReader) "many" = some none)
    (naReaderrows : PySem.W.findIn K (.ref CReader) "rows" = some none)
    (naReaderends : PySem.W.findIn K (.ref CReader) "ends" = some none)
    (naReader_modes : PySem.W.findIn K (.ref CReader) "_modes" = some none)
    (zisinstance : PySem.W.nsIn K mainGlobals "isinstance" = some none)
    (zint : PySem.W.nsIn K mainGlobals "int" = some none)
    (zbool : PySem.W.nsIn K mainGlobals "bool" = some none)
    (ztuple : PySem.W.nsIn K mainGlobals "tuple" = some none)
    (zlen : PySem.W.nsIn K mainGlobals "len" = some none)
    (zall : PySem.W.nsIn K mainGlobals "all" = some none)
    (zrange : PySem.W.nsIn K mainGlobals "range" = some none)
    (zstr : PySem.W.nsIn K mainGlobals "str" = some none)
    (zenumerate : PySem.W.nsIn K mainGlobals "enumerate" = some none)
    (zsum : PySem.W.nsIn K mainGlobals "sum" = some none)
    (zabs : PySem.W.nsIn K mainGlobals "abs" = some none)
    (zlist : PySem.W.nsIn K mainGlobals "list" = some none)
    (zmin : PySem.W.nsIn K mainGlobals "min" = some none)
    (zsorted : PySem.W.nsIn K mainGlobals "sorted" = some none)
    (zmax : PySem.W.nsIn K mainGlobals "max" = some none)
    (qSIGNS : PySem.W.nsIn K mainGlobals "SIGNS" = some (some (.str "abcdef" TSIGNS)))
    (qLEAST_SIGNS : PySem.W.nsIn K mainGlobals "LEAST_SIGNS" = some (some (.int 2 TLEAST_SIGNS)))
    (qMOST_SIGNS : PySem.W.nsIn K mainGlobals "MOST_SIGNS" = some (some (.int 6 TMOST_SIGNS)))
    (qMOST_TEXT : PySem.W.nsIn K mainGlobals "MOST_TEXT" = some (some (.int 400 TMOST_TEXT)))
    (qMOST_MARK : PySem.W.nsIn K mainGlobals "MOST_MARK" = some (some (.int 5 TMOST_MARK)))
    (qMOST_KIND : PySem.W.nsIn K mainGlobals "MOST_KIND" = some (some (.int 2 TMOST_KIND)))
    (qMARK : PySem.W.nsIn K mainGlobals "MARK" = some (some (.str "mark" TMARK)))
    (qOPEN : PySem.W.nsIn K mainGlobals "OPEN" = some (some (.str "open" TOPEN)))
    (qSAY : PySem.W.nsIn K mainGlobals "SAY" = some (some (.str "say" TSAY)))
    (qSHUT : PySem.W.nsIn K mainGlobals "SHUT" = some (some (.ref PSHUT))) (rSHUT : K.lookup PSHUT = some ⟨.type "tuple", ESHUT, .seq #[.str "shut" TSHUT] VSHUT, ZSHUT⟩)
    (qMOST_STATES : PySem.W.nsIn K mainGlobals "MOST_STATES" = some (some (.int 8 TMOST_STATES)))
    (qMOST_EVENTS : PySem.W.nsIn K mainGlobals "MOST_EVENTS" = some (some (.int 2 TMOST_EVENTS)))
    : ∃ fd : FuncData, (∀ (s : Shared) (v : Value), BindsTo s fd ⟨[v], []⟩ [("script", v)]) ∧ ∀ base : Heap, K.In base → base.Ns mainGlobals mg → FnOk l.prog w K mg base CX0 15 fa fd ["script"] (spLaw K) := by
  have e := hfa.symm.trans (PySem.W.mg_of X G a46)
  cases e
  exact ⟨PySem.W.fnOf "law" "law" (defArgs s_law) (defBody s_law) (defScope s_law) .none kV46 dc46 pm46 an46 cd46 ct46, fun s v => .of_eq rfl, fun base _ _ => (ok_law (P := l.prog) (w := w) (base := base) ({
    a_is_integer := A0
    d_is_integer := PySem.W.fnOf "is_integer" "is_integer" (defArgs s_is_integer) (defBody s_is_integer) (defScope s_is_integer) .none kV0 dc0 pm0 an0 cd0 ct0
    F_is_integer := fun_mk (st := s_is_integer) l0 c0 k0
    m_is_integer := PySem.W.mg_of X G a0
    a_is_between := A1
    d_is_between := PySem.W.fnOf "is_between" "is_between" (defArgs s_is_between) (defBody s_is_between) (defScope s_is_between) .none kV1 dc1 pm1 an1 cd1 ct1
    F_is_between := fun_mk (st := s_is_between) l1 c1 k1
    m_is_between := PySem.W.mg_of X G a1
    a_is_tuple := A2
    d_is_tuple := PySem.W.fnOf "is_tuple" "is_tuple" (defArgs s_is_tuple) (defBody s_is_tuple) (defScope s_is_tuple) .none kV2 dc2 pm2 an2 cd2 ct2
    F_is_tuple := fun_mk (st := s_is_tuple) l2 c2 k2
    m_is_tuple := PySem.W.mg_of X G a2
    a_is_tuple_up_to := A3
    d_is_tuple_up_to := PySem.W.fnOf "is_tuple_up_to" "is_tuple_up_to" (defArgs s_is_tuple_up_to) (defBody s_is_tuple_up_to) (defScope s_is_tuple_up_to) .none kV3 dc3 pm3 an3 cd3 ct3
    F_is_tuple_up_to := fun_mk (st := s_is_tuple_up_to) l3 c3 k3
    m_is_tuple_up_to := PySem.W.mg_of X G a3
    a_is_ascending := A4
    d_is_ascending := PySem.W.fnOf "is_ascending" "is_ascending" (defArgs s_is_ascending) (defBody s_is_ascending) (defScope s_is_ascending) .none kV4 dc4 pm4 an4 cd4 ct4
    F_is_ascending := fun_mk (st := s_is_ascending) l4 c4 k4
    m_is_ascending := PySem.W.mg_of X G a4
    a_is_set := A5
    d_is_set := PySem.W.fnOf "is_set" "is_set" (defArgs s_is_set) (defBody s_is_set) (defScope s_is_set) .none kV5 dc5 pm5 an5 cd5 ct5
    F_is_set := fun_mk (st := s_is_set) l5 c5 k5
    m_is_set := PySem.W.mg_of X G a5
    a_is_many := A6
    d_is_many := PySem.W.fnOf "is_many" "is_many" (defArgs s_is_many) (defBody s_is_many) (defScope s_is_many) .none kV6 dc6 pm6 an6 cd6 ct6
    F_is_many := fun_mk (st := s_is_many) l6 c6 k6
    m_is_many := PySem.W.mg_of X G a6
    a_is_sign := A7
    d_is_sign := PySem.W.fnOf "is_sign" "is_sign" (defArgs s_is_sign) (defBody s_is_sign) (defScope s_is_sign) .none kV7 dc7 pm7 an7 cd7 ct7
    F_is_sign := fun_mk (st := s_is_sign) l7 c7 k7
    m_is_sign := PySem.W.mg_of X G a7
    a_is_text_up_to := A8
    d_is_text_up_to := PySem.W.fnOf "is_text_up_to" "is_text_up_to" (defArgs s_is_text_up_to) (defBody s_is_text_up_to) (defScope s_is_text_up_to) .none kV8 dc8 pm8 an8 cd8 ct8
    F_is_text_up_to := fun_mk (st := s_is_text_up_to) l8 c8 k8
    m_is_text_up_to := PySem.W.mg_of X G a8
    a_is_text := A9
    d_is_text := PySem.W.fnOf "is_text" "is_text" (defArgs s_is_text) (defBody s_is_text) (defScope s_is_text) .none kV9 dc9 pm9 an9 cd9 ct9
    F_is_text := fun_mk (st := s_is_text) l9 c9 k9
    m_is_text := PySem.W.mg_of X G a9
    a_is_event := A10
    d_is_event := PySem.W.fnOf "is_event" "is_event" (defArgs s_is_event) (defBody s_is_event) (defScope s_is_event) .none kV10 dc10 pm10 an10 cd10 ct10
    F_is_event := fun_mk (st := s_is_event) l10 c10 k10
    m_is_event := PySem.W.mg_of X G a10
    a_is_entry := A11
    d_is_entry := PySem.W.fnOf "is_entry" "is_entry" (defArgs s_is_entry) (defBody s_is_entry) (defScope s_is_entry) .none kV11 dc11 pm11 an11 cd11 ct11
    F_is_entry := fun_mk (st := s_is_entry) l11 c11 k11
    m_is_entry := PySem.W.mg_of X G a11
    a_are_rows := A12
    d_are_rows := PySem.W.fnOf "are_rows" "are_rows" (defArgs s_are_rows) (defBody s_are_rows) (defScope s_are_rows) .none kV12 dc12 pm12 an12 cd12 ct12
    F_are_rows := fun_mk (st := s_are_rows) l12 c12 k12
    m_are_rows := PySem.W.mg_of X G a12
    a_states_in := A13
    d_states_in := PySem.W.fnOf "states_in" "states_in" (defArgs s_states_in) (defBody s_states_in) (defScope s_states_in) .none kV13 dc13 pm13 an13 cd13 ct13
    F_states_in := fun_mk (st := s_states_in) l13 c13 k13
    m_states_in := PySem.W.mg_of X G a13
    a_mode_behind := A14
    d_mode_behind := PySem.W.fnOf "mode_behind" "mode_behind" (defArgs s_mode_behind) (defBody s_mode_behind) (defScope s_mode_behind) .none kV14 dc14 pm14 an14 cd14 ct14
    F_mode_behind := fun_mk (st := s_mode_behind) l14 c14 k14
    m_mode_behind := PySem.W.mg_of X G a14
    a_modes_in := A15
    d_modes_in := PySem.W.fnOf "modes_in" "modes_in" (defArgs s_modes_in) (defBody s_modes_in) (defScope s_modes_in) .none kV15 dc15 pm15 an15 cd15 ct15
    F_modes_in := fun_mk (st := s_modes_in) l15 c15 k15
    m_modes_in := PySem.W.mg_of X G a15
    a_are_ends := A16
    d_are_ends := PySem.W.fnOf "are_ends" "are_ends" (defArgs s_are_ends) (defBody s_are_ends) (defScope s_are_ends) .none kV16 dc16 pm16 an16 cd16 ct16
    F_are_ends := fun_mk (st := s_are_ends) l16 c16 k16
    m_are_ends := PySem.W.mg_of X G a16
    a_Reader___init__ := A17
    d_Reader___init__ := PySem.W.fnOf "__init__" "Reader.__init__" (defArgs s_Reader___init__) (defBody s_Reader___init__) (defScope s_Reader___init__) .none kV17 dc17 pm17 an17 cd17 ct17
    F_Reader___init__ := fun_mk (st := s_Reader___init__) l17 c17 k17
    a_check_state := A18
    d_check_state := PySem.W.fnOf "check_state" "check_state" (defArgs s_check_state) (defBody s_check_state) (defScope s_check_state) .none kV18 dc18 pm18 an18 cd18 ct18
    F_check_state := fun_mk (st := s_check_state) l18 c18 k18
    m_check_state := PySem.W.mg_of X G a18
    a_check_text := A19
    d_check_text := PySem.W.fnOf "check_text" "check_text" (defArgs s_check_text) (defBody s_check_text) (defScope s_check_text) .none kV19 dc19 pm19 an19 cd19 ct19
    F_check_text := fun_mk (st := s_check_text) l19 c19 k19
    m_check_text := PySem.W.mg_of X G a19
    a_modes := A20
    d_modes := PySem.W.fnOf "modes" "modes" (defArgs s_modes) (defBody s_modes) (defScope s_modes) .none kV20 dc20 pm20 an20 cd20 ct20
    F_modes := fun_mk (st := s_modes) l20 c20 k20
    m_modes := PySem.W.mg_of X G a20
    a_entry_for := A21
    d_entry_for := PySem.W.fnOf "entry_for" "entry_for" (defArgs s_entry_for) (defBody s_entry_for) (defScope s_entry_for) .none kV21 dc21 pm21 an21 cd21 ct21
    F_entry_for := fun_mk (st := s_entry_for) l21 c21 k21
    m_entry_for := PySem.W.mg_of X G a21
    a_read_on := A22
    d_read_on := PySem.W.fnOf "read_on" "read_on" (defArgs s_read_on) (defBody s_read_on) (defScope s_read_on) .none kV22 dc22 pm22 an22 cd22 ct22
    F_read_on := fun_mk (st := s_read_on) l22 c22 k22
    m_read_on := PySem.W.mg_of X G a22
    a_read_from := A23
    d_read_from := PySem.W.fnOf "read_from" "read_from" (defArgs s_read_from) (defBody s_read_from) (defScope s_read_from) .none kV23 dc23 pm23 an23 cd23 ct23
    F_read_from := fun_mk (st := s_read_from) l23 c23 k23
    m_read_from := PySem.W.mg_of X G a23
    a_reading_of := A24
    d_reading_of := PySem.W.fnOf "reading_of" "reading_of" (defArgs s_reading_of) (defBody s_reading_of) (defScope s_reading_of) .none kV24 dc24 pm24 an24 cd24 ct24
    F_reading_of := fun_mk (st := s_reading_of) l24 c24 k24
    m_reading_of := PySem.W.mg_of X G a24
    a_reads := A25
    d_reads := PySem.W.fnOf "reads" "reads" (defArgs s_reads) (defBody s_reads) (defScope s_reads) .none kV25 dc25 pm25 an25 cd25 ct25
    F_reads := fun_mk (st := s_reads) l25 c25 k25
    m_reads := PySem.W.mg_of X G a25
    a_items_in := A26
    d_items_in := PySem.W.fnOf "items_in" "items_in" (defArgs s_items_in) (defBody s_items_in) (defScope s_items_in) .none kV26 dc26 pm26 an26 cd26 ct26
    F_items_in := fun_mk (st := s_items_in) l26 c26 k26
    m_items_in := PySem.W.mg_of X G a26
    a_items := A27
    d_items := PySem.W.fnOf "items" "items" (defArgs s_items) (defBody s_items) (defScope s_items) .none kV27 dc27 pm27 an27 cd27 ct27
    F_items := fun_mk (st := s_items) l27 c27 k27
    m_items := PySem.W.mg_of X G a27
    a_stuck_at := A28
    d_stuck_at := PySem.W.fnOf "stuck_at" "stuck_at" (defArgs s_stuck_at) (defBody s_stuck_at) (defScope s_stuck_at) .none kV28 dc28 pm28 an28 cd28 ct28
    F_stuck_at := fun_mk (st := s_stuck_at) l28 c28 k28
    m_stuck_at := PySem.W.mg_of X G a28
    a__law_cell := A29
    d__law_cell := PySem.W.fnOf "_law_cell" "_law_cell" (defArgs s__law_cell) (defBody s__law_cell) (defScope s__law_cell) .none kV29 dc29 pm29 an29 cd29 ct29
    F__law_cell := fun_mk (st := s__law_cell) l29 c29 k29
    m__law_cell := PySem.W.mg_of X G a29
    a__law_box := A30
    d__law_box := PySem.W.fnOf "_law_box" "_law_box" (defArgs s__law_box) (defBody s__law_box) (defScope s__law_box) .none kV30 dc30 pm30 an30 cd30 ct30
    F__law_box := fun_mk (st := s__law_box) l30 c30 k30
    m__law_box := PySem.W.mg_of X G a30
    a__law_take := A31
    d__law_take := PySem.W.fnOf "_law_take" "_law_take" (defArgs s__law_take) (defBody s__law_take) (defScope s__law_take) .none kV31 dc31 pm31 an31 cd31 ct31
    F__law_take := fun_mk (st := s__law_take) l31 c31 k31
    m__law_take := PySem.W.mg_of X G a31
    a__law_pick := A32
    d__law_pick := PySem.W.fnOf "_law_pick" "_law_pick" (defArgs s__law_pick) (defBody s__law_pick) (defScope s__law_pick) .none kV32 dc32 pm32 an32 cd32 ct32
    F__law_pick := fun_mk (st := s__law_pick) l32 c32 k32
    m__law_pick := PySem.W.mg_of X G a32
    a__law_same := A33
    d__law_same := PySem.W.fnOf "_law_same" "_law_same" (defArgs s__law_same) (defBody s__law_same) (defScope s__law_same) .none kV33 dc33 pm33 an33 cd33 ct33
    F__law_same := fun_mk (st := s__law_same) l33 c33 k33
    m__law_same := PySem.W.mg_of X G a33
    a__law_events := A34
    d__law_events := PySem.W.fnOf "_law_events" "_law_events" (defArgs s__law_events) (defBody s__law_events) (defScope s__law_events) .none kV34 dc34 pm34 an34 cd34 ct34
    F__law_events := fun_mk (st := s__law_events) l34 c34 k34
    m__law_events := PySem.W.mg_of X G a34
    a__law_planned := A35
    d__law_planned := PySem.W.fnOf "_law_planned" "_law_planned" (defArgs s__law_planned) (defBody s__law_planned) (defScope s__law_planned) .none kV35 dc35 pm35 an35 cd35 ct35
    F__law_planned := fun_mk (st := s__law_planned) l35 c35 k35
    m__law_planned := PySem.W.mg_of X G a35
    a__law_words := A36
    d__law_words := PySem.W.fnOf "_law_words" "_law_words" (defArgs s__law_words) (defBody s__law_words) (defScope s__law_words) .none kV36 dc36 pm36 an36 cd36 ct36
    F__law_words := fun_mk (st := s__law_words) l36 c36 k36
    m__law_words := PySem.W.mg_of X G a36
    a__law_rows := A37
    d__law_rows := PySem.W.fnOf "_law_rows" "_law_rows" (defArgs s__law_rows) (defBody s__law_rows) (defScope s__law_rows) .none kV37 dc37 pm37 an37 cd37 ct37
    F__law_rows := fun_mk (st := s__law_rows) l37 c37 k37
    m__law_rows := PySem.W.mg_of X G a37
    a__law_order := A38
    d__law_order := PySem.W.fnOf "_law_order" "_law_order" (defArgs s__law_order) (defBody s__law_order) (defScope s__law_order) .none kV38 dc38 pm38 an38 cd38 ct38
    F__law_order := fun_mk (st := s__law_order) l38 c38 k38
    m__law_order := PySem.W.mg_of X G a38
    a__law_items := A39
    d__law_items := PySem.W.fnOf "_law_items" "_law_items" (defArgs s__law_items) (defBody s__law_items) (defScope s__law_items) .none kV39 dc39 pm39 an39 cd39 ct39
    F__law_items := fun_mk (st := s__law_items) l39 c39 k39
    m__law_items := PySem.W.mg_of X G a39
    a__law_behind := A40
    d__law_behind := PySem.W.fnOf "_law_behind" "_law_behind" (defArgs s__law_behind) (defBody s__law_behind) (defScope s__law_behind) .none kV40 dc40 pm40 an40 cd40 ct40
    F__law_behind := fun_mk (st := s__law_behind) l40 c40 k40
    m__law_behind := PySem.W.mg_of X G a40
    a__law_flat := A41
    d__law_flat := PySem.W.fnOf "_law_flat" "_law_flat" (defArgs s__law_flat) (defBody s__law_flat) (defScope s__law_flat) .none kV41 dc41 pm41 an41 cd41 ct41
    F__law_flat := fun_mk (st := s__law_flat) l41 c41 k41
    m__law_flat := PySem.W.mg_of X G a41
    a__law_told := A42
    d__law_told := PySem.W.fnOf "_law_told" "_law_told" (defArgs s__law_told) (defBody s__law_told) (defScope s__law_told) .none kV42 dc42 pm42 an42 cd42 ct42
    F__law_told := fun_mk (st := s__law_told) l42 c42 k42
    m__law_told := PySem.W.mg_of X G a42
    a__law_text_right := A43
    d__law_text_right := PySem.W.fnOf "_law_text_right" "_law_text_right" (defArgs s__law_text_right) (defBody s__law_text_right) (defScope s__law_text_right) .none kV43 dc43 pm43 an43 cd43 ct43
    F__law_text_right := fun_mk (st := s__law_text_right) l43 c43 k43
    m__law_text_right := PySem.W.mg_of X G a43
    a__law_inner_right := A44
    d__law_inner_right := PySem.W.fnOf "_law_inner_right" "_law_inner_right" (defArgs s__law_inner_right) (defBody s__law_inner_right) (defScope s__law_inner_right) .none kV44 dc44 pm44 an44 cd44 ct44
    F__law_inner_right := fun_mk (st := s__law_inner_right) l44 c44 k44
    m__law_inner_right := PySem.W.mg_of X G a44
    a__law_right := A45
    d__law_right := PySem.W.fnOf "_law_right" "_law_right" (defArgs s__law_right) (defBody s__law_right) (defScope s__law_right) .none kV45 dc45 pm45 an45 cd45 ct45
    F__law_right := fun_mk (st := s__law_right) l45 c45 k45
    m__law_right := PySem.W.mg_of X G a45
    a_law := fa
    d_law := PySem.W.fnOf "law" "law" (defArgs s_law) (defBody s_law) (defScope s_law) .none kV46 dc46 pm46 an46 cd46 ct46
    F_law := fun_mk (st := s_law) l46 c46 k46
    m_law := PySem.W.mg_of X G a46
    C_Reader := CReader
    m_Reader := PySem.W.mg_of X G aCReader
    k_Reader := ⟨mkReader, a17, i17, kcReader⟩
    cl_Reader := ⟨pgReader, hdReader, poReader, saReader⟩
    na_Reader_many := naReadermany
    na_Reader_rows := naReaderrows
    na_Reader_ends := naReaderends
    na_Reader__modes := naReader_modes
    n_isinstance := PySem.W.mg_none_of X G zisinstance
    n_int := PySem.W.mg_none_of X G zint
    n_bool := PySem.W.mg_none_of X G zbool
    n_tuple := PySem.W.mg_none_of X G ztuple
    n_len := PySem.W.mg_none_of X G zlen
    n_all := PySem.W.mg_none_of X G zall
    n_range := PySem.W.mg_none_of X G zrange
    n_str := PySem.W.mg_none_of X G zstr
    n_enumerate := PySem.W.mg_none_of X G zenumerate
    n_sum := PySem.W.mg_none_of X G zsum
    n_abs := PySem.W.mg_none_of X G zabs
    n_list := PySem.W.mg_none_of X G zlist
    n_min := PySem.W.mg_none_of X G zmin
    n_sorted := PySem.W.mg_none_of X G zsorted
    n_max := PySem.W.mg_none_of X G zmax
    t_SIGNS := TSIGNS
    c_SIGNS := PySem.W.mg_of X G qSIGNS
    t_LEAST_SIGNS := TLEAST_SIGNS
    c_LEAST_SIGNS := PySem.W.mg_of X G qLEAST_SIGNS
    t_MOST_SIGNS := TMOST_SIGNS
    c_MOST_SIGNS := PySem.W.mg_of X G qMOST_SIGNS
    t_MOST_TEXT := TMOST_TEXT
    c_MOST_TEXT := PySem.W.mg_of X G qMOST_TEXT
    t_MOST_MARK := TMOST_MARK
    c_MOST_MARK := PySem.W.mg_of X G qMOST_MARK
    t_MOST_KIND := TMOST_KIND
    c_MOST_KIND := PySem.W.mg_of X G qMOST_KIND
    t_MARK := TMARK
    c_MARK := PySem.W.mg_of X G qMARK
    t_OPEN := TOPEN
    c_OPEN := PySem.W.mg_of X G qOPEN
    t_SAY := TSAY
    c_SAY := PySem.W.mg_of X G qSAY
    t_SHUT := TSHUT
    v_SHUT := VSHUT
    e_SHUT := ESHUT
    z_SHUT := ZSHUT
    p_SHUT := PSHUT
    c_SHUT := PySem.W.mg_of X G qSHUT
    l_SHUT := rSHUT
    t_MOST_STATES := TMOST_STATES
    c_MOST_STATES := PySem.W.mg_of X G qMOST_STATES
    t_MOST_EVENTS := TMOST_EVENTS
    c_MOST_EVENTS := PySem.W.mg_of X G qMOST_EVENTS
  } : Tx K mg)).imp (law_ev nl law_value)⟩
end K0
open PySem PySem.W PyProof.Rows in
set_option maxRecDepth 100000 in
set_option maxHeartbeats 0 in
theorem PySem.Challenge.cw_escapechains_k00_readers_with_several_ki_holds : PySem.Challenge.rw_escapechains_k00_readers_with_several_ki.Holds := by
  w_on; o_law; k_head; (case hw => w_witness2)
  k_fill
  refine Ev.walk_ev (l := PySem.Challenge.rw_escapechains_k00_readers_with_several_ki) (k := 15) rfl rfl ⟨rfl, by decide, by decide⟩ (fun w h Y => PySem.W.kIn_of Y) ?F
  case F =>
    intro w mg fa h KX G hmg
    refine' K0.all_mk KX G hmg ?nl ?aCReader ?a0 ?l0 ?c0 ?k0 ?a1 ?l1 ?c1 ?k1 ?a2 ?l2 ?c2 ?k2 ?a3 ?l3 ?c3 ?k3 ?a4 ?l4 ?c4 ?k4 ?a5 ?l5 ?c5 ?k5 ?a6 ?l6 ?c6 ?k6 ?a7 ?l7 ?c7 ?k7 ?a8 ?l8 ?c8 ?k8 ?a9 ?l9 ?c9 ?k9 ?a10 ?l10 ?c10 ?k10 ?a11 ?l11 ?c11 ?k11 ?a12 ?l12 ?c12 ?k12 ?a13 ?l13 ?c13 ?k13 ?a14 ?l14 ?c14 ?k14 ?a15 ?l15 ?c15 ?k15 ?a16 ?l16 ?c16 ?k16 ?a17 ?i17 ?l17 ?c17 ?k17 ?a18 ?l18 ?c18 ?k18 ?a19 ?l19 ?c19 ?k19 ?a20 ?l20 ?c20 ?k20 ?a21 ?l21 ?c21 ?k21 ?a22 ?l22 ?c22 ?k22 ?a23 ?l23 ?c23 ?k23 ?a24 ?l24 ?c24 ?k24 ?a25 ?l25 ?c25 ?k25 ?a26 ?l26 ?c26 ?k26 ?a27 ?l27 ?c27 ?k27 ?a28 ?l28 ?c28 ?k28 ?a29 ?l29 ?c29 ?k29 ?a30 ?l30 ?c30 ?k30 ?a31 ?l31 ?c31 ?k31 ?a32 ?l32 ?c32 ?k32 ?a33 ?l33 ?c33 ?k33 ?a34 ?l34 ?c34 ?k34 ?a35 ?l35 ?c35 ?k35 ?a36 ?l36 ?c36 ?k36 ?a37 ?l37 ?c37 ?k37 ?a38 ?l38 ?c38 ?k38 ?a39 ?l39 ?c39 ?k39 ?a40 ?l40 ?c40 ?k40 ?a41 ?l41 ?c41 ?k41 ?a42 ?l42 ?c42 ?k42 ?a43 ?l43 ?c43 ?k43 ?a44 ?l44 ?c44 ?k44 ?a45 ?l45 ?c45 ?k45 ?a46 ?l46 ?c46 ?k46 ?pgReader ?hdReader ?poReader ?saReader ?mkReader ?kcReader ?naReadermany ?naReaderrows ?naReaderends ?naReader_modes ?zisinstance ?zint ?zbool ?ztuple ?zlen ?zall ?zrange ?zstr ?zenumerate ?zsum ?zabs ?zlist ?zmin ?zsorted ?zmax ?qSIGNS ?qLEAST_SIGNS ?qMOST_SIGNS ?qMOST_TEXT ?qMOST_MARK ?qMOST_KIND ?qMARK ?qOPEN ?qSAY ?qSHUT ?rSHUT ?qMOST_STATES ?qMOST_EVENTS
    (case nl => rfl)
    (case aCReader => k_is)
    (case a0 => k_is)
    (case l0 => k_is)
    (case c0 => k_is)
    (case k0 => k_is)
    (case a1 => k_is)
    (case l1 => k_is)
    (case c1 => k_is)
    (case k1 => k_is)
    (case a2 => k_is)
    (case l2 => k_is)
    (case c2 => k_is)
    (case k2 => k_is)
    (case a3 => k_is)
    (case l3 => k_is)
    (case c3 => k_is)
    (case k3 => k_is)
    (case a4 => k_is)
    (case l4 => k_is)
    (case c4 => k_is)
    (case k4 => k_is)
    (case a5 => k_is)
    (case l5 => k_is)
    (case c5 => k_is)
    (case k5 => k_is)
    (case a6 => k_is)
    (case l6 => k_is)
    (case c6 => k_is)
    (case k6 => k_is)
    (case a7 => k_is)
    (case l7 => k_is)
    (case c7 => k_is)
    (case k7 => k_is)
    (case a8 => k_is)
    (case l8 => k_is)
    (case c8 => k_is)
    (case k8 => k_is)
    (case a9 => k_is)
    (case l9 => k_is)
    (case c9 => k_is)
    (case k9 => k_is)
    (case a10 => k_is)
    (case l10 => k_is)
    (case c10 => k_is)
    (case k10 => k_is)
    (case a11 => k_is)
    (case l11 => k_is)
    (case c11 => k_is)
    (case k11 => k_is)
    (case a12 => k_is)
    (case l12 => k_is)
    (case c12 => k_is)
    (case k12 => k_is)
    (case a13 => k_is)
    (case l13 => k_is)
    (case c13 => k_is)
    (case k13 => k_is)
    (case a14 => k_is)
    (case l14 => k_is)
    (case c14 => k_is)
    (case k14 => k_is)
    (case a15 => k_is)
    (case l15 => k_is)
    (case c15 => k_is)
    (case k15 => k_is)
    (case a16 => k_is)
    (case l16 => k_is)
    (case c16 => k_is)
    (case k16 => k_is)
    (case a17 => k_is)
    (case i17 => k_is)
    (case l17 => k_is)
    (case c17 => k_is)
    (case k17 => k_is)
    (case a18 => k_is)
    (case l18 => k_is)
    (case c18 => k_is)
    (case k18 => k_is)
    (case a19 => k_is)
    (case l19 => k_is)
    (case c19 => k_is)
    (case k19 => k_is)
    (case a20 => k_is)
    (case l20 => k_is)
    (case c20 => k_is)
    (case k20 => k_is)
    (case a21 => k_is)
    (case l21 => k_is)
    (case c21 => k_is)
    (case k21 => k_is)
    (case a22 => k_is)
    (case l22 => k_is)
    (case c22 => k_is)
    (case k22 => k_is)
    (case a23 => k_is)
    (case l23 => k_is)
    (case c23 => k_is)
    (case k23 => k_is)
    (case a24 => k_is)
    (case l24 => k_is)
    (case c24 => k_is)
    (case k24 => k_is)
    (case a25 => k_is)
    (case l25 => k_is)
    (case c25 => k_is)
    (case k25 => k_is)
    (case a26 => k_is)
    (case l26 => k_is)
    (case c26 => k_is)
    (case k26 => k_is)
    (case a27 => k_is)
    (case l27 => k_is)
    (case c27 => k_is)
    (case k27 => k_is)
    (case a28 => k_is)
    (case l28 => k_is)
    (case c28 => k_is)
    (case k28 => k_is)
    (case a29 => k_is)
    (case l29 => k_is)
    (case c29 => k_is)
    (case k29 => k_is)
    (case a30 => k_is)
    (case l30 => k_is)
    (case c30 => k_is)
    (case k30 => k_is)
    (case a31 => k_is)
    (case l31 => k_is)
    (case c31 => k_is)
    (case k31 => k_is)
    (case a32 => k_is)
    (case l32 => k_is)
    (case c32 => k_is)
    (case k32 => k_is)
    (case a33 => k_is)
    (case l33 => k_is)
    (case c33 => k_is)
    (case k33 => k_is)
    (case a34 => k_is)
    (case l34 => k_is)
    (case c34 => k_is)
    (case k34 => k_is)
    (case a35 => k_is)
    (case l35 => k_is)
    (case c35 => k_is)
    (case k35 => k_is)
    (case a36 => k_is)
    (case l36 => k_is)
    (case c36 => k_is)
    (case k36 => k_is)
    (case a37 => k_is)
    (case l37 => k_is)
    (case c37 => k_is)
    (case k37 => k_is)
    (case a38 => k_is)
    (case l38 => k_is)
    (case c38 => k_is)
    (case k38 => k_is)
    (case a39 => k_is)
    (case l39 => k_is)
    (case c39 => k_is)
    (case k39 => k_is)
    (case a40 => k_is)
    (case l40 => k_is)
    (case c40 => k_is)
    (case k40 => k_is)
    (case a41 => k_is)
    (case l41 => k_is)
    (case c41 => k_is)
    (case k41 => k_is)
    (case a42 => k_is)
    (case l42 => k_is)
    (case c42 => k_is)
    (case k42 => k_is)
    (case a43 => k_is)
    (case l43 => k_is)
    (case c43 => k_is)
    (case k43 => k_is)
    (case a44 => k_is)
    (case l44 => k_is)
    (case c44 => k_is)
    (case k44 => k_is)
    (case a45 => k_is)
    (case l45 => k_is)
    (case c45 => k_is)
    (case k45 => k_is)
    (case a46 => k_is)
    (case l46 => k_is)
    (case c46 => k_is)
    (case k46 => k_is)
    (case pgReader => k_is)
    (case hdReader => k_is)
    (case poReader => k_is)
    (case saReader => k_is)
    (case mkReader => k_is)
    (case kcReader => k_is)
    (case naReadermany => k_is)
    (case naReaderrows => k_is)
    (case naReaderends => k_is)
    (case naReader_modes => k_is)
    (case zisinstance => k_is)
    (case zint => k_is)
    (case zbool => k_is)
    (case ztuple => k_is)
    (case zlen => k_is)
    (case zall => k_is)
    (case zrange => k_is)
    (case zstr => k_is)
    (case zenumerate => k_is)
    (case zsum => k_is)
    (case zabs => k_is)
    (case zlist => k_is)
    (case zmin => k_is)
    (case zsorted => k_is)
    (case zmax => k_is)
    (case qSIGNS => k_is)
    (case qLEAST_SIGNS => k_is)
    (case qMOST_SIGNS => k_is)
    (case qMOST_TEXT => k_is)
    (case qMOST_MARK => k_is)
    (case qMOST_KIND => k_is)
    (case qMARK => k_is)
    (case qOPEN => k_is)
    (case qSAY => k_is)
    (case qSHUT => k_is)
    (case rSHUT => k_is)
    (case qMOST_STATES => k_is)
    (case qMOST_EVENTS => k_is)
