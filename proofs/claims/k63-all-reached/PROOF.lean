import PyProof.Rows.All
import Wide.All
import OpenK.AllK
import Wide.FinOn
import PySem.Challenge.RW_bentstretch_k63_all_reached
import HandS.ForMost
import HandS.Flow
import HandS.Wide
import HandS.TryOnly
import HandS.More
import HandS.TupAny
import HandS.Walk
import HandS.Zip
import HandS.TupMul
import HandS.IsInst
import HandS.Conv
import HandS.Style
import HandS.Deep
import HandS.TupLe
import KE.GoesEnum
import HandS.Replace
import HandS.Codes
import HandS.Dict
import HandS.EndBits
set_option Elab.async false
set_option linter.all false
set_option maxRecDepth 100000
set_option maxHeartbeats 4000000
/-! The data layer: tuples as values, lists by address, over the hand layer's readings. -/
namespace DL
open PySem PySem.Spec PyProof.Rows L2

/-- data: what a value stands for; tuples whole, lists and objects by address -/
inductive D where
  | non | bl (b : Bool) | int (i : Int) | str (x : Str) | tup (ds : List D) | ref (a : Addr) | ty (n : String) | rl (ds : List D)
/-- what stands at an address -/
inductive O where
  | lst (ds : List D)
  | ins (C : Addr) (fs : List (Str × D))
  | dK (kvs : List (Key × D))
  | dT (kvs : List (List Key × D))
abbrev Mu := Addr → Option O
abbrev DSt := List (Option D)
def mput (m : Mu) (a : Addr) (o : O) : Mu := fun b => if b = a then some o else m b
theorem mput_same {m : Mu} {a : Addr} {o : O} : mput m a o a = some o := by unfold mput; rw [if_pos rfl]
theorem mput_ne {m : Mu} {a b : Addr} {o : O} (h : b ≠ a) : mput m a o b = m b := by unfold mput; rw [if_neg h]
theorem mput_put {m : Mu} {a : Addr} {o u : O} : mput (mput m a o) a u = mput m a u := by
  funext b; unfold mput; split <;> rfl
def Sub (m m' : Mu) : Prop := ∀ a o, m a = some o → m' a = some o
theorem Sub.refl (m : Mu) : Sub m m := fun _ _ h => h
theorem Sub.trans {a b c : Mu} (h : Sub a b) (h' : Sub b c) : Sub a c := fun x o e => h' x o (h x o e)
theorem Sub.put {m : Mu} {a : Addr} {o : O} (h : m a = none) : Sub m (mput m a o) := fun b u e => by
  rw [mput_ne (fun z => by rw [z, h] at e; cases e)]; exact e

/-- a list that is only read: locked, or of the written part -/
def RoL (K : PySem.W.Frag) (H : Hp) (a : Addr) (xs : List V) : Prop :=
  (∃ o, H a = some (.frz o (.lst xs))) ∨
    ∃ (o : Obj) (its : Array Value) (n : Nat), K.lookup a = some o ∧ o.cls = .type "list" ∧ o.dict = none ∧ o.data = .seq its n ∧ its.size ≤ sizeLine ∧ Vals xs its.toList
theorem RoL.sq {K : PySem.W.Frag} {H : Hp} {a : Addr} {xs : List V} (h : RoL K H a xs) : SqL K H a xs := by
  rcases h with ⟨o, h⟩ | h
  · exact .inl (.inr ⟨o, h⟩)
  · exact .inr h
theorem RoL.of_only {K : PySem.W.Frag} {H : Hp} {a : Addr} {xs : List V} (ho : Only H) (h : SqL K H a xs) : RoL K H a xs := by
  rcases h with (h | ⟨o, h⟩) | h
  · rcases ho a with z | ⟨o, ys, z⟩
    · rw [h] at z; cases z
    · rw [h] at z; cases z
  · exact .inl ⟨o, h⟩
  · exact .inr h
section
variable (K : PySem.W.Frag) (H : Hp)
mutual
def Rep : D → V → Prop
  | .non, v => v = .non
  | .bl b, v => v = .bl b
  | .int i, v => v = .int i
  | .str x, v => v = .str x
  | .ty n, v => v = .ty n
  | .ref a, v => v = .ref a
  | .tup ds, v => ∃ a xs, v = .ref a ∧ H a = some (.tup xs) ∧ Reps ds xs
  | .rl ds, v => ∃ a xs, v = .ref a ∧ RoL K H a xs ∧ Reps ds xs
def Reps : List D → List V → Prop
  | [], xs => xs = []
  | d :: ds, xs => ∃ v vs, xs = v :: vs ∧ Rep d v ∧ Reps ds vs
end
/-- pairs by key -/
def RepK {κ : Type} : List (κ × D) → List (κ × V) → Prop
  | [], xs => xs = []
  | (k, d) :: ds, xs => ∃ v vs, xs = (k, v) :: vs ∧ Rep K H d v ∧ RepK ds vs
def RepO (a : Addr) : O → Prop
  | .lst ds => ∃ xs, H a = some (.lst xs) ∧ Reps K H ds xs
  | .ins C fs => ∃ dx vs, H a = some (.ins C dx vs) ∧ RepK K H fs vs
  | .dK kvs => ∃ vs, H a = some (.dK vs) ∧ RepK K H kvs vs
  | .dT kvs => ∃ vs, H a = some (.dT vs) ∧ RepK K H kvs vs
def RepM (m : Mu) : Prop := ∀ a o, m a = some o → RepO K H a o
def RepS (r : DSt) (s : L2.St) : Prop := r.length = s.length ∧ ∀ (i : Nat) d, r[i]? = some (some d) → ∃ v, s[i]? = some (some v) ∧ Rep K H d v
end
/-- tuples stay, and lists that are only read -/
structure Keep (K : PySem.W.Frag) (H H' : Hp) : Prop where
  t : ∀ a xs, SqT K H a xs → SqT K H' a xs
  l : ∀ a xs, RoL K H a xs → RoL K H' a xs
  n : ∀ a xs, H a = some (.tup xs) → H' a = some (.tup xs)
theorem Keep.refl (K : PySem.W.Frag) (H : Hp) : Keep K H H := ⟨fun _ _ h => h, fun _ _ h => h, fun _ _ h => h⟩
theorem Keep.trans {K : PySem.W.Frag} {H H1 H2 : Hp} (a : Keep K H H1) (b : Keep K H1 H2) : Keep K H H2 := ⟨fun x xs h => b.t x xs (a.t x xs h), fun x xs h => b.l x xs (a.l x xs h), fun x xs h => b.n x xs (a.n x xs h)⟩
section
variable {K : PySem.W.Frag} {H H' H1 H2 : Hp}
mutual
theorem Rep.keep (k : Keep K H H') : ∀ {d : D} {v : V}, Rep K H d v → Rep K H' d v
  | .non, v, h => by unfold Rep at h ⊢; exact h
  | .bl b, v, h => by unfold Rep at h ⊢; exact h
  | .int b, v, h => by unfold Rep at h ⊢; exact h
  | .str b, v, h => by unfold Rep at h ⊢; exact h
  | .ty b, v, h => by unfold Rep at h ⊢; exact h
  | .ref b, v, h => by unfold Rep at h ⊢; exact h
  | .tup ds, v, h => by
    unfold Rep at h ⊢
    obtain ⟨a, xs, e, q, r⟩ := h
    exact ⟨a, xs, e, k.n a xs q, Reps.keep k r⟩
  | .rl ds, v, h => by
    unfold Rep at h ⊢
    obtain ⟨a, xs, e, q, r⟩ := h
    exact ⟨a, xs, e, k.l a xs q, Reps.keep k r⟩
theorem Reps.keep (k : Keep K H H') : ∀ {ds : List D} {vs : List V}, Reps K H ds vs → Reps K H' ds vs
  | [], vs, h => by unfold Reps at h ⊢; exact h
  | d :: ds, vs, h => by
    unfold Reps at h ⊢
    obtain ⟨v, r, e, h1, h2⟩ := h
    exact ⟨v, r, e, Rep.keep k h1, Reps.keep k h2⟩
end
theorem RepK.keep {κ : Type} (k : Keep K H H') : ∀ {ds : List (κ × D)} {vs : List (κ × V)}, RepK K H ds vs → RepK K H' ds vs
  | [], vs, h => by unfold RepK at h ⊢; exact h
  | (c, d) :: ds, vs, h => by
    unfold RepK at h ⊢
    obtain ⟨v, r, e, h1, h2⟩ := h
    exact ⟨v, r, e, h1.keep k, RepK.keep k h2⟩
theorem RepS.keep {r : DSt} {s : L2.St} (k : Keep K H H') (h : RepS K H r s) : RepS K H' r s :=
  ⟨h.1, fun i d e => let ⟨v, e', q⟩ := h.2 i d e; ⟨v, e', q.keep k⟩⟩
theorem RepM.sub {m m' : Mu} (h : RepM K H m') (s : Sub m m') : RepM K H m := fun a o e => h a o (s a o e)

/-- what a piece of code does to the heap: tuples stay, what is not its own stays, what it brings is new -/
structure Step (K : PySem.W.Frag) (H : Hp) (m : Mu) (H' : Hp) (m' : Mu) : Prop where
  keep : Keep K H H'
  fr : ∀ b o, H b = some o → m b = none → H' b = some o
  dom : ∀ b o, m' b = some o → m b = none → H b = none
  th : ∀ b, H' b = none → H b = none
theorem Step.refl (K : PySem.W.Frag) (H : Hp) (m : Mu) : Step K H m H m := ⟨Keep.refl K H, fun _ _ h _ => h, fun b o h n => (by rw [n] at h; cases h), fun _ h => h⟩
theorem Step.trans {m m1 m2 : Mu} (a : Step K H m H1 m1) (b : Step K H1 m1 H2 m2) : Step K H m H2 m2 where
  keep := a.keep.trans b.keep
  fr := fun c o h n => by
    refine b.fr c o (a.fr c o h n) ?_
    cases q : m1 c with
    | none => rfl
    | some u => have := a.dom c u q n; rw [this] at h; cases h
  dom := fun c o h n => by
    cases q : m1 c with
    | some u => exact a.dom c u q n
    | none =>
      have z := b.dom c o h q
      cases e : H c with
      | none => rfl
      | some u => have := a.fr c u e n; rw [this] at z; cases z
  th := fun c h => a.th c (b.th c h)
theorem Step.sub {m m1 m2 : Mu} (a : Step K H m H1 m2) (s : Sub m1 m2) : Step K H m H1 m1 := ⟨a.keep, a.fr, fun b o h n => a.dom b o (s b o h) n, a.th⟩

/-! ### lists of data -/
theorem Reps.length : ∀ {ds : List D} {vs : List V}, Reps K H ds vs → ds.length = vs.length
  | [], vs, h => by unfold Reps at h; subst h; rfl
  | d :: ds, vs, h => by
    unfold Reps at h
    obtain ⟨v, r, e, _, h2⟩ := h
    subst e
    simp [Reps.length h2]
theorem Reps.nil : Reps K H [] [] := by unfold Reps; rfl
theorem Reps.cons {d : D} {v : V} {ds : List D} {vs : List V} (h : Rep K H d v) (t : Reps K H ds vs) : Reps K H (d :: ds) (v :: vs) := by
  unfold Reps; exact ⟨v, vs, rfl, h, t⟩
theorem Reps.get : ∀ {ds : List D} {vs : List V} {i : Nat} {d : D}, Reps K H ds vs → ds[i]? = some d → ∃ v, vs[i]? = some v ∧ Rep K H d v
  | [], _, _, _, _, e => by simp at e
  | c :: ds, vs, 0, d, h, e => by
    unfold Reps at h
    obtain ⟨v, r, q, h1, _⟩ := h
    simp at e; subst e; subst q
    exact ⟨v, rfl, h1⟩
  | c :: ds, vs, i + 1, d, h, e => by
    unfold Reps at h
    obtain ⟨v, r, q, _, h2⟩ := h
    subst q
    obtain ⟨w, e', q⟩ := Reps.get (i := i) h2 (by simpa using e)
    exact ⟨w, by simpa using e', q⟩
theorem Reps.get' : ∀ {ds : List D} {vs : List V} {i : Nat} {v : V}, Reps K H ds vs → vs[i]? = some v → ∃ d, ds[i]? = some d ∧ Rep K H d v
  | [], vs, i, v, h, e => by unfold Reps at h; subst h; simp at e
  | c :: ds, vs, 0, v, h, e => by
    unfold Reps at h
    obtain ⟨w, r, q, h1, _⟩ := h
    subst q; simp at e; subst e
    exact ⟨c, rfl, h1⟩
  | c :: ds, vs, i + 1, v, h, e => by
    unfold Reps at h
    obtain ⟨w, r, q, _, h2⟩ := h
    subst q
    obtain ⟨d, e', q⟩ := Reps.get' (i := i) h2 (by simpa using e)
    exact ⟨d, by simpa using e', q⟩
theorem Reps.append : ∀ {ds es : List D} {vs ws : List V}, Reps K H ds vs → Reps K H es ws → Reps K H (ds ++ es) (vs ++ ws)
  | [], es, vs, ws, h, t => by unfold Reps at h; subst h; exact t
  | d :: ds, es, vs, ws, h, t => by
    unfold Reps at h
    obtain ⟨v, r, q, h1, h2⟩ := h
    subst q
    exact Reps.cons h1 (Reps.append h2 t)
theorem Reps.one {d : D} {v : V} (h : Rep K H d v) : Reps K H [d] [v] := Reps.cons h Reps.nil
theorem Reps.take : ∀ {ds : List D} {vs : List V} (n : Nat), Reps K H ds vs → Reps K H (ds.take n) (vs.take n)
  | ds, vs, 0, h => by simp [Reps]
  | [], vs, n + 1, h => by unfold Reps at h; subst h; exact Reps.nil
  | d :: ds, vs, n + 1, h => by
    unfold Reps at h
    obtain ⟨v, r, q, h1, h2⟩ := h
    subst q
    exact Reps.cons h1 (Reps.take n h2)
theorem Reps.drop : ∀ {ds : List D} {vs : List V} (n : Nat), Reps K H ds vs → Reps K H (ds.drop n) (vs.drop n)
  | ds, vs, 0, h => by simpa using h
  | [], vs, n + 1, h => by unfold Reps at h; subst h; exact Reps.nil
  | d :: ds, vs, n + 1, h => by
    unfold Reps at h
    obtain ⟨v, r, q, h1, h2⟩ := h
    subst q
    simpa using Reps.drop n h2
theorem Reps.set {d : D} {v : V} (q : Rep K H d v) : ∀ {ds : List D} {vs : List V} (i : Nat), Reps K H ds vs → Reps K H (ds.set i d) (vs.set i v)
  | [], vs, i, h => by unfold Reps at h; subst h; simp [Reps]
  | c :: ds, vs, 0, h => by
    unfold Reps at h
    obtain ⟨w, r, e, _, h2⟩ := h
    subst e
    exact Reps.cons q h2
  | c :: ds, vs, i + 1, h => by
    unfold Reps at h
    obtain ⟨w, r, e, h1, h2⟩ := h
    subst e
    exact Reps.cons h1 (Reps.set q i h2)
theorem Reps.reverse : ∀ {ds : List D} {vs : List V}, Reps K H ds vs → Reps K H ds.reverse vs.reverse
  | [], vs, h => by unfold Reps at h; subst h; exact Reps.nil
  | c :: ds, vs, h => by
    unfold Reps at h
    obtain ⟨w, r, e, h1, h2⟩ := h
    subst e
    rw [List.reverse_cons, List.reverse_cons]
    exact (Reps.reverse h2).append (Reps.one h1)
theorem Reps.rep {ds : List D} {vs : List V} (h : Reps K H ds vs) : ∀ k : Nat, Reps K H (List.replicate k ds).flatten (List.replicate k vs).flatten
  | 0 => Reps.nil
  | k + 1 => by
    rw [List.replicate_succ, List.replicate_succ, List.flatten_cons, List.flatten_cons]
    exact h.append (Reps.rep h k)
theorem Reps.ints : ∀ {ns : List Int} {vs : List V}, Reps K H (ns.map D.int) vs → vs = ns.map V.int
  | [], vs, h => by unfold Reps at h; exact h
  | n :: ns, vs, h => by
    simp only [List.map_cons] at h ⊢
    unfold Reps at h
    obtain ⟨w, r, e, h1, h2⟩ := h
    unfold Rep at h1
    subst h1
    rw [e, Reps.ints h2]
theorem Reps.of_ints : ∀ (ns : List Int), Reps K H (ns.map D.int) (ns.map V.int)
  | [] => Reps.nil
  | n :: ns => Reps.cons (by unfold Rep; rfl) (Reps.of_ints ns)
theorem Rep.int_ {i : Int} {v : V} : Rep K H (.int i) v ↔ v = .int i := by unfold Rep; exact Iff.rfl
theorem Rep.bl_ {i : Bool} {v : V} : Rep K H (.bl i) v ↔ v = .bl i := by unfold Rep; exact Iff.rfl
theorem Rep.str_ {i : Str} {v : V} : Rep K H (.str i) v ↔ v = .str i := by unfold Rep; exact Iff.rfl
theorem Rep.ref_ {i : Addr} {v : V} : Rep K H (.ref i) v ↔ v = .ref i := by unfold Rep; exact Iff.rfl
theorem Rep.ty_ {i : String} {v : V} : Rep K H (.ty i) v ↔ v = .ty i := by unfold Rep; exact Iff.rfl
theorem Rep.non_ {v : V} : Rep K H .non v ↔ v = .non := by unfold Rep; exact Iff.rfl
theorem Rep.tup0 {ds : List D} {v : V} : Rep K H (.tup ds) v ↔ ∃ a xs, v = .ref a ∧ H a = some (.tup xs) ∧ Reps K H ds xs := by rw [Rep]
structure TupI (p q r : Prop) : Prop where
  mp : p → q
  mpr : r → p
theorem Rep.tup_ {ds : List D} {v : V} : TupI (Rep K H (.tup ds) v) (∃ a xs, v = .ref a ∧ SqT K H a xs ∧ Reps K H ds xs) (∃ a xs, v = .ref a ∧ H a = some (.tup xs) ∧ Reps K H ds xs) :=
  ⟨fun h => let ⟨a, xs, e, q, r⟩ := Rep.tup0.mp h; ⟨a, xs, e, SqT.of q, r⟩, Rep.tup0.mpr⟩

/-! ### slots -/
theorem RepS.set {r : DSt} {s : L2.St} {d : D} {v : V} (h : RepS K H r s) (q : Rep K H d v) (i : Nat) : RepS K H (r.set i (some d)) (s.set i (some v)) := by
  refine ⟨by simp [h.1], fun j c e => ?_⟩
  by_cases hj : i = j
  · subst hj
    by_cases hl : i < r.length
    · rw [List.getElem?_set_self hl] at e
      have e' : d = c := by simpa using e
      subst e'
      exact ⟨v, by rw [List.getElem?_set_self (by rw [← h.1]; exact hl)], q⟩
    · rw [List.getElem?_eq_none (by simpa using hl)] at e
      cases e
  · rw [List.getElem?_set_ne hj] at e
    obtain ⟨w, e', q'⟩ := h.2 j c e
    exact ⟨w, by rw [List.getElem?_set_ne hj]; exact e', q'⟩

/-! ### the heap grows, a list is written -/
theorem SqT.new {a p : Addr} {xs : List V} {o : HO} (h : SqT K H a xs) (hp : H p = none) : SqT K (upd H p o) a xs := by
  rcases h with (h | ⟨u, h⟩) | h
  · exact .inl (.inl (by rw [upd_ne (ne_of_none h hp)]; exact h))
  · exact .inl (.inr ⟨u, by rw [upd_ne (ne_of_none h hp)]; exact h⟩)
  · exact .inr h
theorem SqL.new {a p : Addr} {xs : List V} {o : HO} (h : SqL K H a xs) (hp : H p = none) : SqL K (upd H p o) a xs := by
  rcases h with (h | ⟨u, h⟩) | h
  · exact .inl (.inl (by rw [upd_ne (ne_of_none h hp)]; exact h))
  · exact .inl (.inr ⟨u, by rw [upd_ne (ne_of_none h hp)]; exact h⟩)
  · exact .inr h
theorem RoL.new {a p : Addr} {xs : List V} {o : HO} (h : RoL K H a xs) (hp : H p = none) : RoL K (upd H p o) a xs := by
  rcases h with ⟨u, h⟩ | h
  · exact .inl ⟨u, by rw [upd_ne (ne_of_none h hp)]; exact h⟩
  · exact .inr h
theorem Keep.new {p : Addr} {o : HO} (hp : H p = none) : Keep K H (upd H p o) := ⟨fun _ _ h => SqT.new h hp, fun _ _ h => RoL.new h hp, fun _ _ h => by rw [upd_ne (ne_of_none h hp)]; exact h⟩
theorem SqT.wr {a p : Addr} {xs : List V} {o u : HO} (h : SqT K H a xs) (hp : H p = some u) (hu : Mut (some u)) : SqT K (upd H p o) a xs := by
  rcases h with (h | ⟨w, h⟩) | h
  · exact .inl (.inl (by rw [upd_ne (ne_of h hp (by rintro rfl; exact hu))]; exact h))
  · exact .inl (.inr ⟨w, by rw [upd_ne (ne_of h hp (by rintro rfl; exact hu))]; exact h⟩)
  · exact .inr h
theorem RoL.wr {a p : Addr} {xs : List V} {o u : HO} (h : RoL K H a xs) (hp : H p = some u) (hu : Mut (some u)) : RoL K (upd H p o) a xs := by
  rcases h with ⟨w, h⟩ | h
  · exact .inl ⟨w, by rw [upd_ne (ne_of h hp (by rintro rfl; exact hu))]; exact h⟩
  · exact .inr h
/-- an object that may be written is written -/
theorem Keep.wr {p : Addr} {o u : HO} (hp : H p = some u) (hu : Mut (some u)) : Keep K H (upd H p o) := ⟨fun _ _ h => SqT.wr h hp hu, fun _ _ h => RoL.wr h hp hu, fun _ _ h => by rw [upd_ne (ne_of h hp (by rintro rfl; exact hu))]; exact h⟩
theorem RepO.new {p a : Addr} {o : HO} {u : O} (hp : H p = none) (h : RepO K H a u) : RepO K (upd H p o) a u := by
  have k : Keep K H (upd H p o) := Keep.new hp
  cases u with
  | lst ds => obtain ⟨xs, e, r⟩ := h; exact ⟨xs, by rw [upd_ne (ne_of_none e hp)]; exact e, r.keep k⟩
  | ins C fs => obtain ⟨dx, vs, e, r⟩ := h; exact ⟨dx, vs, by rw [upd_ne (ne_of_none e hp)]; exact e, r.keep k⟩
  | dK fs => obtain ⟨vs, e, r⟩ := h; exact ⟨vs, by rw [upd_ne (ne_of_none e hp)]; exact e, r.keep k⟩
  | dT fs => obtain ⟨vs, e, r⟩ := h; exact ⟨vs, by rw [upd_ne (ne_of_none e hp)]; exact e, r.keep k⟩
theorem RepM.new {m : Mu} {p : Addr} {o : HO} (h : RepM K H m) (hp : H p = none) : RepM K (upd H p o) m := fun a u e => (h a u e).new hp
/-- tracked objects of m stand in H -/
theorem RepM.free {m : Mu} {p : Addr} (h : RepM K H m) (hp : H p = none) : m p = none := by
  cases e : m p with
  | none => rfl
  | some u =>
    have q := h p u e
    cases u with
    | lst ds => obtain ⟨xs, e, r⟩ := q; rw [hp] at e; cases e
    | ins C fs => obtain ⟨dx, vs, e, r⟩ := q; rw [hp] at e; cases e
    | dK fs => obtain ⟨vs, e, r⟩ := q; rw [hp] at e; cases e
    | dT fs => obtain ⟨vs, e, r⟩ := q; rw [hp] at e; cases e
/-- a new object: not m's, or m's -/
theorem upd_none {p b : Addr} {o : HO} (h : upd H p o b = none) : H b = none := by
  unfold upd at h; split at h
  · cases h
  · exact h
theorem Step.new {m : Mu} {p : Addr} {o : HO} (hp : H p = none) : Step K H m (upd H p o) m :=
  ⟨Keep.new hp, fun b u h n => by rw [upd_ne (ne_of_none h hp)]; exact h, fun b u h n => (by rw [n] at h; cases h), fun b h => upd_none h⟩
theorem Step.newM {m : Mu} {p : Addr} {o : HO} {u : O} (hp : H p = none) : Step K H m (upd H p o) (mput m p u) :=
  ⟨Keep.new hp, fun b u h n => by rw [upd_ne (ne_of_none h hp)]; exact h, fun b w h n => (by
    by_cases e : b = p
    · rw [e]; exact hp
    · rw [mput_ne e, n] at h; cases h), fun b h => upd_none h⟩
theorem RepM.newM {m : Mu} {p : Addr} {o : HO} {u : O} (h : RepM K H m) (hp : H p = none) (n : RepO K (upd H p o) p u) : RepM K (upd H p o) (mput m p u) := fun a w e => by
  by_cases q : a = p
  · subst q; rw [mput_same] at e; cases e; exact n
  · rw [mput_ne q] at e; exact (h a w e).new hp
theorem RepO.wr {p a : Addr} {o u : HO} {w : O} (hp : H p = some u) (hu : Mut (some u)) (ne : a ≠ p) (h : RepO K H a w) : RepO K (upd H p o) a w := by
  have k : Keep K H (upd H p o) := Keep.wr hp hu
  cases w with
  | lst ds => obtain ⟨xs, e, r⟩ := h; exact ⟨xs, by rw [upd_ne ne]; exact e, r.keep k⟩
  | ins C fs => obtain ⟨dx, vs, e, r⟩ := h; exact ⟨dx, vs, by rw [upd_ne ne]; exact e, r.keep k⟩
  | dK fs => obtain ⟨vs, e, r⟩ := h; exact ⟨vs, by rw [upd_ne ne]; exact e, r.keep k⟩
  | dT fs => obtain ⟨vs, e, r⟩ := h; exact ⟨vs, by rw [upd_ne ne]; exact e, r.keep k⟩
theorem RepM.wr {m : Mu} {p : Addr} {o u : HO} {w : O} (h : RepM K H m) (hp : H p = some u) (hu : Mut (some u)) (n : RepO K (upd H p o) p w) : RepM K (upd H p o) (mput m p w) := fun a z e => by
  by_cases q : a = p
  · subst q; rw [mput_same] at e; cases e; exact n
  · rw [mput_ne q] at e; exact (h a z e).wr hp hu q
theorem Step.wr {m : Mu} {p : Addr} {o u : HO} {w w' : O} (hp : H p = some u) (hu : Mut (some u)) (hm : m p = some w') : Step K H m (upd H p o) (mput m p w) :=
  ⟨Keep.wr hp hu, fun b z h n => by rw [upd_ne (fun e => by rw [e, hm] at n; cases n)]; exact h, fun b z h n => (by
    by_cases e : b = p
    · rw [e, hm] at n; cases n
    · rw [mput_ne e, n] at h; cases h), fun b h => upd_none h⟩
end
end DL

namespace DL
open PySem PySem.Spec PyProof.Rows L2

abbrev DK := D → Mu → Prop
abbrev DTE := DSt → Mu → DK → Prop
abbrev DTT := DSt → Mu → (Bool → Mu → Prop) → Prop
abbrev DTA := DSt → Mu → (List D → Mu → Prop) → Prop
abbrev DTG := D → DSt → Mu → (DSt → Mu → Prop) → Prop
abbrev DTGs := List D → DSt → Mu → (DSt → Mu → Prop) → Prop
structure DEnds where
  nx : DSt → Mu → Prop
  rt : DK
  bk : DSt → Mu → Prop := fun _ _ => False
  ct : DSt → Mu → Prop := fun _ _ => False
abbrev DTS := DEnds → DSt → Mu → Prop

section
variable (K : PySem.W.Frag)
/-- what is wanted behind an expression -/
def Done (H : Hp) (m : Mu) (R : DK) (Q : VK) : Prop := ∀ d m' v H', R d m' → Step K H m H' m' → RepM K H' m' → Rep K H' d v → Q v H'
def DoneT (H : Hp) (m : Mu) (R : Bool → Mu → Prop) (Q : Bool → Hp → Prop) : Prop := ∀ b m' H', R b m' → Step K H m H' m' → RepM K H' m' → Q b H'
def DoneA (H : Hp) (m : Mu) (R : List D → Mu → Prop) (Q : List V → Hp → Prop) : Prop := ∀ ds m' vs H', R ds m' → Step K H m H' m' → RepM K H' m' → Reps K H' ds vs → Q vs H'
def DoneS (H : Hp) (m : Mu) (R : DSt → Mu → Prop) (Q : L2.St → Hp → Prop) : Prop := ∀ r m' s H', R r m' → Step K H m H' m' → RepM K H' m' → RepS K H' r s → Q s H'
/-- a new list that none else holds -/
def DoneL (H : Hp) (m : Mu) (R : List D → Mu → Prop) (Q : VK) : Prop := ∀ ds m' a xs H', R ds m' → Step K H m H' m' → RepM K H' m' → H' a = some (.lst xs) → m' a = none → H a = none → Reps K H' ds xs → Q (.ref a) H'

def lE (t : DTE) : TE := fun s H Q => ∃ r m R, RepS K H r s ∧ RepM K H m ∧ t r m R ∧ Done K H m R Q
def lT (t : DTT) : TT := fun s H Q => ∃ r m R, RepS K H r s ∧ RepM K H m ∧ t r m R ∧ DoneT K H m R Q
def lA (t : DTA) : TA := fun s H Q => ∃ r m R, RepS K H r s ∧ RepM K H m ∧ t r m R ∧ DoneA K H m R Q
def lL (t : DTA) : TE := fun s H Q => ∃ r m R, RepS K H r s ∧ RepM K H m ∧ t r m R ∧ DoneL K H m R Q
def lG (g : DTG) : TG := fun v s H Q => ∃ d r m R, Rep K H d v ∧ RepS K H r s ∧ RepM K H m ∧ g d r m R ∧ DoneS K H m R Q
def lGs (g : DTGs) : TGs := fun vs s H Q => ∃ ds r m R, Reps K H ds vs ∧ RepS K H r s ∧ RepM K H m ∧ g ds r m R ∧ DoneS K H m R Q
structure EndsOk (H : Hp) (m : Mu) (E : DEnds) (E' : Ends) : Prop where
  nx : DoneS K H m E.nx E'.nx
  rt : Done K H m E.rt E'.rt
  bk : DoneS K H m E.bk E'.bk
  ct : DoneS K H m E.ct E'.ct
def lS (t : DTS) : TS := fun E' s H => ∃ r m E, RepS K H r s ∧ RepM K H m ∧ t E r m ∧ EndsOk K H m E E'
end

section
variable {K : PySem.W.Frag} {H H' H1 : Hp} {m m' m1 : Mu}
theorem Done.step {R : DK} {Q : VK} (h : Done K H m R Q) (s : Step K H m H1 m1) : Done K H1 m1 R Q := fun d m' v H' r s' M q => h d m' v H' r (s.trans s') M q
theorem DoneT.step {R : Bool → Mu → Prop} {Q : Bool → Hp → Prop} (h : DoneT K H m R Q) (s : Step K H m H1 m1) : DoneT K H1 m1 R Q := fun b m' H' r s' M => h b m' H' r (s.trans s') M
theorem DoneA.step {R : List D → Mu → Prop} {Q : List V → Hp → Prop} (h : DoneA K H m R Q) (s : Step K H m H1 m1) : DoneA K H1 m1 R Q := fun d m' v H' r s' M q => h d m' v H' r (s.trans s') M q
theorem DoneS.step {R : DSt → Mu → Prop} {Q : L2.St → Hp → Prop} (h : DoneS K H m R Q) (s : Step K H m H1 m1) : DoneS K H1 m1 R Q := fun d m' v H' r s' M q => h d m' v H' r (s.trans s') M q
theorem EndsOk.step {E : DEnds} {E' : Ends} (h : EndsOk K H m E E') (s : Step K H m H1 m1) : EndsOk K H1 m1 E E' := ⟨h.nx.step s, h.rt.step s, h.bk.step s, h.ct.step s⟩
theorem Done.here {R : DK} {Q : VK} {d : D} {v : V} (h : Done K H m R Q) (r : R d m) (M : RepM K H m) (q : Rep K H d v) : Q v H := h d m v H r (Step.refl K H m) M q
theorem DoneT.here {R : Bool → Mu → Prop} {Q : Bool → Hp → Prop} {b : Bool} (h : DoneT K H m R Q) (r : R b m) (M : RepM K H m) : Q b H := h b m H r (Step.refl K H m) M
theorem DoneA.here {R : List D → Mu → Prop} {Q : List V → Hp → Prop} {d : List D} {v : List V} (h : DoneA K H m R Q) (r : R d m) (M : RepM K H m) (q : Reps K H d v) : Q v H := h d m v H r (Step.refl K H m) M q
theorem DoneS.here {R : DSt → Mu → Prop} {Q : L2.St → Hp → Prop} {d : DSt} {v : L2.St} (h : DoneS K H m R Q) (r : R d m) (M : RepM K H m) (q : RepS K H d v) : Q v H := h d m v H r (Step.refl K H m) M q
end

/-! ### weakening of readings -/
section
variable {X : Cx}
theorem _root_.L2.PE.of {e : Expr} {t t' : TE} (h : PE X e t') (i : ∀ s H Q, t s H Q → t' s H Q) : PE X e t := ⟨fun pins s σ H Q I q => h.run pins s σ H Q I (i _ _ _ q)⟩
theorem _root_.L2.PT.of {e : Expr} {t t' : TT} (h : PT X e t') (i : ∀ s H Q, t s H Q → t' s H Q) : PT X e t := ⟨fun pins s σ H Q I q => h.run pins s σ H Q I (i _ _ _ q)⟩
theorem _root_.L2.PW.of {e : Expr} {t t' : TT} (h : PW X e t') (i : ∀ s H Q, t s H Q → t' s H Q) : PW X e t := ⟨fun wh pins s σ H Q I q => h.run wh pins s σ H Q I (i _ _ _ q)⟩
theorem _root_.L2.PA.of {e : List Expr} {t t' : TA} (h : PA X e t') (i : ∀ s H Q, t s H Q → t' s H Q) : PA X e t := ⟨fun pos pins s σ H Q I q => h.run pos pins s σ H Q I (i _ _ _ q)⟩
theorem _root_.L2.PS.of {e : Stmt} {t t' : TS} (h : PS X e t') (i : ∀ D s H, t D s H → t' D s H) : PS X e t := ⟨fun pins s σ H D I q => h.run pins s σ H D I (i _ _ _ q)⟩
theorem _root_.L2.PSs.of {e : List Stmt} {t t' : TS} (h : PSs X e t') (i : ∀ D s H, t D s H → t' D s H) : PSs X e t := ⟨fun pins s σ H D I q => h.run pins s σ H D I (i _ _ _ q)⟩
theorem _root_.L2.PG.of {e : Expr} {t t' : TG} (h : PG X e t') (i : ∀ v s H Q, t v s H Q → t' v s H Q) : PG X e t := ⟨fun pins s σ H v u Q I r q => h.run pins s σ H v u Q I r (i _ _ _ _ q)⟩
theorem _root_.L2.PGs.of {e : List Expr} {t t' : TGs} (h : PGs X e t') (i : ∀ v s H Q, t v s H Q → t' v s H Q) : PGs X e t := ⟨fun pins s σ H v u Q I r q => h.run pins s σ H v u Q I r (i _ _ _ _ q)⟩
end

structure DE (X : Cx) (e : Expr) (t : DTE) : Prop where
  p : PE X e (lE X.K t)
structure DT (X : Cx) (e : Expr) (t : DTT) : Prop where
  p : PT X e (lT X.K t)
structure DW (X : Cx) (e : Expr) (t : DTT) : Prop where
  p : PW X e (lT X.K t)
structure DA (X : Cx) (e : List Expr) (t : DTA) : Prop where
  p : PA X e (lA X.K t)
/-- an expression that gives a new list -/
structure DN (X : Cx) (e : Expr) (t : DTA) : Prop where
  p : PE X e (lL X.K t)
structure DG (X : Cx) (e : Expr) (t : DTG) : Prop where
  p : PG X e (lG X.K t)
structure DGs (X : Cx) (e : List Expr) (t : DTGs) : Prop where
  p : PGs X e (lGs X.K t)
structure DS (X : Cx) (e : Stmt) (t : DTS) : Prop where
  p : PS X e (lS X.K t)
structure DSs (X : Cx) (e : List Stmt) (t : DTS) : Prop where
  p : PSs X e (lS X.K t)

/-! ### expressions -/
section
variable {X : Cx} {a b c : Expr} {ta tb tc : DTE} {pos : Pos}
def dVar (i : Nat) : DTE := fun r m R => match r[i]? with
  | some (some d) => R d m
  | _ => False
def dC (d : D) : DTE := fun _ m R => R d m
theorem de_var (i : Nat) {x : Str} {pos : Pos} (hN : X.N[i]? = some x := by rfl) (hv : Vis X.env.scope x := by first | exact Or.inl rfl | exact Or.inr (Or.inl rfl) | exact Or.inr (Or.inr rfl)) (hd : (x == ("__debug__" : Str)) = false := by decide)
    (hcd : (x == ("__classdict__" : Str)) = false := by decide) : DE X (.Name x pos) (dVar i) :=
  ⟨(pe_var hN hv hd hcd).of fun s H Q ⟨r, m, R, hs, M, h, q⟩ => by
    unfold dVar at h
    split at h
    · rename_i d e
      obtain ⟨v, e', p⟩ := hs.2 i d e
      exact ⟨v, e', q.here h M p⟩
    · exact h.elim⟩
theorem de_c {e : Expr} {v : V} {d : D} (h : PE X e (tC v)) (hr : ∀ H, Rep X.K H d v) : DE X e (dC d) :=
  ⟨h.of fun s H Q ⟨r, m, R, hs, M, h, q⟩ => q.here h M (hr H)⟩
theorem de_int {i j pos} : DE X (.Constant (.int i) j pos) (dC (.int i)) := de_c pe_int fun _ => Rep.int_.mpr rfl
theorem de_bl {i j pos} : DE X (.Constant (.bool i) j pos) (dC (.bl i)) := de_c pe_bl fun _ => Rep.bl_.mpr rfl
theorem de_non {j pos} : DE X (.Constant .none j pos) (dC .non) := de_c pe_non fun _ => Rep.non_.mpr rfl
theorem de_str {i j pos} : DE X (.Constant (.str i) j pos) (dC (.str i)) := de_c pe_str fun _ => Rep.str_.mpr rfl

/-- two expressions, then r on values -/
abbrev G2 := D → D → Mu → DK → Prop
def Lift2 (K : PySem.W.Frag) (r : R2) (g : G2) : Prop := ∀ H m x y v w R Q, RepM K H m → Rep K H x v → Rep K H y w → g x y m R → Done K H m R Q → r v w H Q
def d2 (g : G2) (ta tb : DTE) : DTE := fun r m R => ta r m fun x m1 => tb r m1 fun y m2 => g x y m2 R
theorem l2 {r : R2} {g : G2} {K : PySem.W.Frag} (hg : Lift2 K r g) : ∀ s H Q, lE K (d2 g ta tb) s H Q → tOp r (lE K ta) (lE K tb) s H Q := fun s H Q ⟨ρ, m, R, hs, M, h, q⟩ =>
  ⟨ρ, m, _, hs, M, h, fun x m1 v H1 h1 s1 M1 q1 => ⟨ρ, m1, _, hs.keep s1.keep, M1, h1, fun y m2 w H2 h2 s2 M2 q2 => hg H2 m2 x y v w R Q M2 (q1.keep s2.keep) q2 h2 (q.step (s1.trans s2))⟩⟩
theorem de_op {op : Operator} {r : R2} {g : G2} (ho : OpR X (binaryOp op) r) (hg : Lift2 X.K r g) (ha : DE X a ta) (hb : DE X b tb) : DE X (.BinOp a op b pos) (d2 g ta tb) := ⟨(pe_op ho ha.p hb.p).of (l2 hg)⟩
theorem de_cmp {op : CmpOp} {r : R2} {g : G2} (ho : OpR X (compareOp op) r) (hg : Lift2 X.K r g) (ha : DE X a ta) (hb : DE X b tb) (hm : behindInMarks op b = false) : DE X (.Compare a [op] [b] pos) (d2 g ta tb) := ⟨(pe_cmpR ho ha.p hb.p hm).of (l2 hg)⟩
theorem de_ix {r : R2} {g : G2} (ho : IxR X r) (hg : Lift2 X.K r g) (ha : DE X a ta) (hb : DE X b tb) (hs : PlainIx b) : DE X (.Subscript a b pos) (d2 g ta tb) := ⟨(pe_ix ho ha.p hb.p hs).of (l2 hg)⟩
/-- ints -/
def gI (C : Int → Int → Prop) (f : Int → Int → D) : G2 := fun x y m R => match x, y with
  | .int i, .int j => C i j ∧ R (f i j) m
  | _, _ => False
def gI0 (f : Int → Int → D) : G2 := fun x y m R => match x, y with
  | .int i, .int j => R (f i j) m
  | _, _ => False
theorem lift_I {K : PySem.W.Frag} {C : Int → Int → Prop} {f : Int → Int → D} {g : Int → Int → V} (h : ∀ H i j, Rep K H (f i j) (g i j)) : Lift2 K (rI C g) (gI C f) := fun H m x y v w R Q M r1 r2 h1 q => by
  unfold gI at h1
  split at h1
  · rename_i i j
    exact ⟨i, j, Rep.int_.mp r1, Rep.int_.mp r2, h1.1, q.here h1.2 M (h H i j)⟩
  · exact h1.elim
theorem lift_I0 {K : PySem.W.Frag} {f : Int → Int → D} {g : Int → Int → V} (h : ∀ H i j, Rep K H (f i j) (g i j)) : Lift2 K (rI0 g) (gI0 f) := fun H m x y v w R Q M r1 r2 h1 q => by
  unfold gI0 at h1
  split at h1
  · rename_i i j
    exact ⟨i, j, Rep.int_.mp r1, Rep.int_.mp r2, q.here h1 M (h H i j)⟩
  · exact h1.elim
theorem lift_int0 {K : PySem.W.Frag} {f : Int → Int → Int} : Lift2 K (rI0 fun i j => .int (f i j)) (gI0 fun i j => .int (f i j)) := lift_I0 fun _ _ _ => Rep.int_.mpr rfl
theorem lift_intC {K : PySem.W.Frag} {C : Int → Int → Prop} {f : Int → Int → Int} : Lift2 K (rI C fun i j => .int (f i j)) (gI C fun i j => .int (f i j)) := lift_I fun _ _ _ => Rep.int_.mpr rfl
theorem lift_bl0 {K : PySem.W.Frag} {f : Int → Int → Bool} : Lift2 K (rI0 fun i j => .bl (f i j)) (gI0 fun i j => .bl (f i j)) := lift_I0 fun _ _ _ => Rep.bl_.mpr rfl

abbrev dAdd := d2 (gI0 fun i j => .int (i + j))
abbrev dSub := d2 (gI0 fun i j => .int (i - j))
/-- one factor below 2 ^ 64, or both of together less than a million bits -/
def CMulA (i j : Int) : Prop := CMul i j ∨ CMulW i j
theorem CMulA.ok {i j : Int} (h : CMulA i j) : IntMulOk i j := h.elim CMul.ok CMulW.ok
theorem op_mulA : OpR X (binaryOp .Mult) (rI CMulA fun i j => .int (i * j)) := opI fun _ _ _ _ _ _ _ hc q => mul_int q hc.ok
abbrev dMul := d2 (gI CMulA fun i j => .int (i * j))
abbrev dDiv := d2 (gI CDivW fun i j => .int (i / j))
abbrev dMod := d2 (gI (fun _ j => 0 < j) fun i j => .int (i % j))
abbrev dLt := d2 (gI0 fun i j => .bl (decide (i < j)))
abbrev dLe := d2 (gI0 fun i j => .bl (decide (i ≤ j)))
abbrev dGt := d2 (gI0 fun i j => .bl (decide (j < i)))
abbrev dGe := d2 (gI0 fun i j => .bl (decide (j ≤ i)))
theorem de_sub (ha : DE X a ta) (hb : DE X b tb) : DE X (.BinOp a .Sub b pos) (dSub ta tb) := de_op op_sub lift_int0 ha hb
theorem de_mul (ha : DE X a ta) (hb : DE X b tb) : DE X (.BinOp a .Mult b pos) (dMul ta tb) := de_op op_mulA lift_intC ha hb
theorem de_div (ha : DE X a ta) (hb : DE X b tb) : DE X (.BinOp a .FloorDiv b pos) (dDiv ta tb) := de_op op_fdivW lift_intC ha hb
theorem de_mod (ha : DE X a ta) (hb : DE X b tb) : DE X (.BinOp a .Mod b pos) (dMod ta tb) := de_op op_mod lift_intC ha hb
theorem de_lt (ha : DE X a ta) (hb : DE X b tb) : DE X (.Compare a [.Lt] [b] pos) (dLt ta tb) := de_cmp op_lt lift_bl0 ha hb (nomark _)
theorem de_le (ha : DE X a ta) (hb : DE X b tb) : DE X (.Compare a [.LtE] [b] pos) (dLe ta tb) := de_cmp op_le lift_bl0 ha hb (nomark _)
theorem de_gt (ha : DE X a ta) (hb : DE X b tb) : DE X (.Compare a [.Gt] [b] pos) (dGt ta tb) := de_cmp op_gt lift_bl0 ha hb (nomark _)
theorem de_ge (ha : DE X a ta) (hb : DE X b tb) : DE X (.Compare a [.GtE] [b] pos) (dGe ta tb) := de_cmp op_ge lift_bl0 ha hb (nomark _)
theorem Step.put {K : PySem.W.Frag} {H H' : Hp} {m m' : Mu} {a : Addr} {o : O} (s : Step K H m H' m') (ha : H a = none) : Step K H m H' (mput m' a o) :=
  ⟨s.keep, s.fr, fun b u h n => (by
    by_cases e : b = a
    · rw [e]; exact ha
    · rw [mput_ne e] at h; exact s.dom b u h n), s.th⟩
theorem RepM.put {K : PySem.W.Frag} {H : Hp} {m : Mu} {a : Addr} {o : O} (M : RepM K H m) (h : RepO K H a o) : RepM K H (mput m a o) := fun b u e => by
  by_cases q : b = a
  · subst q; rw [mput_same] at e; cases e; exact h
  · rw [mput_ne q] at e; exact M b u e
/-- + of ints, of texts; lists and tuples have rules of their own -/
def gAdd : G2 := fun x y m R => match x, y with
  | .int i, .int j => R (.int (i + j)) m
  | .str i, .str j => i.length + j.length ≤ sizeLine ∧ R (.str (i ++ j)) m
  | .tup i, .tup j => i.length + j.length ≤ sizeLine ∧ R (.tup (i ++ j)) m
  | .ref a, .ref b => match m a with
    | some (.lst i) => match m b with
      | some (.lst j) => i.length + j.length ≤ sizeLine ∧ ∀ c, m c = none → R (.ref c) (mput m c (.lst (i ++ j)))
      | _ => False
    | _ => False
  | _, _ => False
theorem op_addAny : OpR X (binaryOp .Add) (fun x y H Q => (rI0 (fun i j => .int (i + j)) x y H Q) ∨ (∃ i j, x = .str i ∧ y = .str j ∧ i.length + j.length ≤ sizeLine ∧ Q (.str (i ++ j)) H) ∨ rCatA X.K x y H Q ∨ rCat x y H Q) := op_add.or (op_add_str.or (op_catA.or op_cat))
theorem lift_add : Lift2 X.K (fun x y H Q => (rI0 (fun i j => .int (i + j)) x y H Q) ∨ (∃ i j, x = .str i ∧ y = .str j ∧ i.length + j.length ≤ sizeLine ∧ Q (.str (i ++ j)) H) ∨ rCatA X.K x y H Q ∨ rCat x y H Q) gAdd := fun H m x y v w R Q M r1 r2 h1 q => by
  unfold gAdd at h1
  split at h1
  · rename_i i j
    exact .inl ⟨i, j, Rep.int_.mp r1, Rep.int_.mp r2, q.here h1 M (Rep.int_.mpr rfl)⟩
  · rename_i i j
    exact .inr (.inl ⟨i, j, Rep.str_.mp r1, Rep.str_.mp r2, h1.1, q.here h1.2 M (Rep.str_.mpr rfl)⟩)
  · rename_i i j
    obtain ⟨p, xs, rfl, hp, rp⟩ := Rep.tup_.mp r1
    obtain ⟨z, ys, rfl, hz, rz⟩ := Rep.tup_.mp r2
    obtain ⟨hl, h1⟩ := h1
    have l1 := rp.length
    have l2 := rz.length
    refine .inr (.inr (.inl ⟨p, z, xs, ys, rfl, rfl, hp, hz, by omega, fun e => ?_, fun ne e => ?_, fun ne ne2 u hu => q _ _ _ _ h1 (Step.new hu) (M.new hu) (Rep.tup_.mpr ⟨u, _, rfl, upd_same, (rp.append rz).keep (Keep.new hu)⟩)⟩))
    · rw [e] at l1
      have e2 : i = [] := List.length_eq_zero_iff.mp l1
      rw [e2, List.nil_append] at h1
      exact q.here h1 M r2
    · rw [e] at l2
      have e2 : j = [] := List.length_eq_zero_iff.mp l2
      rw [e2, List.append_nil] at h1
      exact q.here h1 M r1
  · rename_i a b
    split at h1
    · rename_i i ei
      split at h1
      · rename_i j ej
        obtain rfl := Rep.ref_.mp r1
        obtain rfl := Rep.ref_.mp r2
        obtain ⟨xs, hx, rx⟩ := M _ _ ei
        obtain ⟨ys, hy, ry⟩ := M _ _ ej
        refine .inr (.inr (.inr ⟨a, b, xs, ys, rfl, rfl, hx, hy, by rw [← rx.length, ← ry.length]; exact h1.1, fun p hp => ?_⟩))
        exact q _ _ _ _ (h1.2 p (M.free hp)) ((Step.new hp).put hp) ((M.new hp).put ⟨_, upd_same, (rx.append ry).keep (Keep.new hp)⟩) (Rep.ref_.mpr rfl)
      · exact h1.elim
    · exact h1.elim
  · exact h1.elim
abbrev dPlus := d2 gAdd
theorem de_add (ha : DE X a ta) (hb : DE X b tb) : DE X (.BinOp a .Add b pos) (dPlus ta tb) := de_op op_addAny lift_add ha hb

/-- one expression, then r on its value -/
def d1 (g : D → Mu → DK → Prop) (ta : DTE) : DTE := fun r m R => ta r m fun x m1 => g x m1 R
def Lift1 (K : PySem.W.Frag) (r : V → Hp → VK → Prop) (g : D → Mu → DK → Prop) : Prop := ∀ H m x v R Q, RepM K H m → Rep K H x v → g x m R → Done K H m R Q → r v H Q
theorem de_un {op : UnaryOp} {r : V → Hp → VK → Prop} {g : D → Mu → DK → Prop} (ho : UnR X (unaryOp op) r) (hg : Lift1 X.K r g) (ha : DE X a ta) : DE X (.UnaryOp op a pos) (d1 g ta) :=
  ⟨(pe_un ho ha.p).of fun s H Q ⟨ρ, m, R, hs, M, h, q⟩ => ⟨ρ, m, _, hs, M, h, fun x m1 v H1 h1 s1 M1 q1 => hg H1 m1 x v R Q M1 q1 h1 (q.step s1)⟩⟩
def gNeg : D → Mu → DK → Prop := fun x m R => match x with
  | .int i => R (.int (-i)) m
  | _ => False
abbrev dNeg := d1 gNeg
theorem de_neg (ha : DE X a ta) : DE X (.UnaryOp .USub a pos) (dNeg ta) := de_un un_neg (fun H m x v R Q M r h q => by
  unfold gNeg at h
  split at h
  · rename_i i
    exact ⟨i, Rep.int_.mp r, q.here h M (Rep.int_.mpr rfl)⟩
  · exact h.elim) ha

/-! ### items -/
/-- what may be read as a row of items -/
def seqOf (m : Mu) : D → Option (List D)
  | .tup ds => some ds
  | .rl ds => some ds
  | .ref a => match m a with
    | some (.lst ds) => some ds
    | _ => none
  | _ => none
theorem seqOf_rep {K : PySem.W.Frag} {H : Hp} {m : Mu} {d : D} {v : V} {ds : List D} (M : RepM K H m) (r : Rep K H d v) (h : seqOf m d = some ds) :
    ∃ p xs, v = .ref p ∧ (SqL K H p xs ∨ SqT K H p xs) ∧ Reps K H ds xs := by
  unfold seqOf at h
  split at h
  · cases h
    obtain ⟨p, xs, e, q, r⟩ := Rep.tup_.mp r
    exact ⟨p, xs, e, .inr q, r⟩
  · cases h
    unfold Rep at r
    obtain ⟨p, xs, e, q, r⟩ := r
    exact ⟨p, xs, e, .inl q.sq, r⟩
  · rename_i a
    split at h
    · cases h
      rename_i e
      obtain ⟨xs, hx, rx⟩ := M a _ e
      exact ⟨a, xs, Rep.ref_.mp r, .inl (SqL.of hx), rx⟩
    · cases h
  · cases h
theorem seqOf_repN {K : PySem.W.Frag} {H : Hp} {m : Mu} {d : D} {v : V} {ds : List D} (M : RepM K H m) (r : Rep K H d v) (h : seqOf m d = some ds) :
    ∃ p xs, v = .ref p ∧ (SqL K H p xs ∨ H p = some (.tup xs)) ∧ Reps K H ds xs := by
  unfold seqOf at h
  split at h
  · cases h
    obtain ⟨p, xs, e, q, r⟩ := Rep.tup0.mp r
    exact ⟨p, xs, e, .inr q, r⟩
  · cases h
    unfold Rep at r
    obtain ⟨p, xs, e, q, r⟩ := r
    exact ⟨p, xs, e, .inl q.sq, r⟩
  · rename_i a
    split at h
    · cases h
      rename_i e
      obtain ⟨xs, hx, rx⟩ := M a _ e
      exact ⟨a, xs, Rep.ref_.mp r, .inl (SqL.of hx), rx⟩
    · cases h
  · cases h
theorem atI_rep {K : PySem.W.Frag} {H : Hp} {ds : List D} {xs : List V} {i : Int} {d : D} (r : Reps K H ds xs) (h : atI ds i = some d) : ∃ v, atI xs i = some v ∧ Rep K H d v := by
  unfold atI at h ⊢
  rw [r.length] at h
  cases e : ixN xs.length i with
  | none => rw [e] at h; cases h
  | some j =>
    rw [e] at h
    exact r.get h
def gIx : G2 := fun x y m R => match y with
  | .int i => match x with
    | .str z => z.length ≤ sizeLine ∧ (match atI z.cps.toList i with
      | some c => R (.str ⟨#[c]⟩) m
      | none => False)
    | x => match seqOf m x with
      | some ds => match atI ds i with
        | some d => R d m
        | none => False
      | none => False
  | _ => False
theorem lift_ix {K : PySem.W.Frag} : Lift2 K (rIx K) gIx := fun H m x y v w R Q M r1 r2 h q => by
  unfold gIx at h
  split at h
  · rename_i i
    obtain rfl := Rep.int_.mp r2
    split at h
    · rename_i z
      obtain ⟨hl, h⟩ := h
      split at h
      · rename_i c e
        exact .inr (.inr ⟨z, i, c, Rep.str_.mp r1, rfl, hl, e, q.here h M (Rep.str_.mpr rfl)⟩)
      · exact h.elim
    · split at h
      · rename_i ds e
        split at h
        · rename_i d e2
          obtain ⟨p, xs, rfl, hs, rx⟩ := seqOf_rep M r1 e
          obtain ⟨u, e3, ru⟩ := atI_rep rx e2
          rcases hs with hs | hs
          · exact .inl ⟨p, xs, i, u, rfl, rfl, hs, e3, q.here h M ru⟩
          · exact .inr (.inl ⟨p, xs, i, u, rfl, rfl, hs, e3, q.here h M ru⟩)
        · exact h.elim
      · exact h.elim
  · exact h.elim
abbrev dIx := d2 gIx
theorem de_at (ha : DE X a ta) (hb : DE X b tb) (hs : PlainIx b := by exact fun _ _ => rfl) : DE X (.Subscript a b pos) (dIx ta tb) := de_ix ix_seq lift_ix ha hb hs
end

/-! ### arguments, displays -/
section
variable {X : Cx} {e : Expr} {es : List Expr} {te : DTE} {t : DTA} {pos : Pos}
def aNil : DTA := fun _ m R => R [] m
def aCons (ta : DTE) (tr : DTA) : DTA := fun r m R => ta r m fun x m1 => tr r m1 fun xs m2 => R (x :: xs) m2
theorem da_nil : DA X [] aNil := ⟨pa_nil.of fun s H Q ⟨r, m, R, hs, M, h, q⟩ => q.here h M Reps.nil⟩
theorem da_cons (ha : DE X e te) (hr : DA X es t) (hs : starEach (e :: es) X.env = (false, eval e X.env) :: starEach es X.env := by rfl) : DA X (e :: es) (aCons te t) :=
  ⟨(pa_cons ha.p hr.p hs).of fun s H Q ⟨r, m, R, hs, M, h, q⟩ => ⟨r, m, _, hs, M, h, fun x m1 v H1 h1 s1 M1 q1 => ⟨r, m1, _, hs.keep s1.keep, M1, h1, fun xs m2 vs H2 h2 s2 M2 q2 =>
    q _ _ _ _ h2 (s1.trans s2) M2 (Reps.cons (q1.keep s2.keep) q2)⟩⟩⟩
def dTup (t : DTA) : DTE := fun r m R => t r m fun xs m1 => xs.length ≤ sizeLine ∧ R (.tup xs) m1
theorem de_tup {k} (h : DA X es t) : DE X (.Tuple es k pos) (dTup t) :=
  ⟨(pe_tup h.p).of fun s H Q ⟨r, m, R, hs, M, h, q⟩ => ⟨r, m, _, hs, M, h, fun xs m1 vs H1 h1 s1 M1 q1 => ⟨by rw [← q1.length]; exact h1.1, fun p hp =>
    q _ _ _ _ h1.2 (s1.trans (Step.new hp)) (M1.new hp) (Rep.tup_.mpr ⟨p, vs, rfl, upd_same, q1.keep (Keep.new hp)⟩)⟩⟩⟩
/-- a new list -/
def nLst (t : DTA) : DTA := fun r m R => t r m fun xs m1 => xs.length ≤ sizeLine ∧ R xs m1
theorem dn_lst (h : DA X es t) : DN X (.List es pos) (nLst t) :=
  ⟨(pe_lst h.p).of fun s H Q ⟨r, m, R, hs, M, h, q⟩ => ⟨r, m, _, hs, M, h, fun xs m1 vs H1 h1 s1 M1 q1 => ⟨by rw [← q1.length]; exact h1.1, fun p hp =>
    q _ _ p _ _ h1.2 (s1.trans (Step.new hp)) (M1.new hp) upd_same (M1.free hp) (s1.th p hp) (q1.keep (Keep.new hp))⟩⟩⟩
/-- a new list as a value: at a new address -/
def dNew (t : DTA) : DTE := fun r m R => t r m fun xs m1 => ∀ a, m1 a = none → R (.ref a) (mput m1 a (.lst xs))
theorem de_new (h : DN X e t) : DE X e (dNew t) :=
  ⟨h.p.of fun s H Q ⟨r, m, R, hs, M, h, q⟩ => ⟨r, m, _, hs, M, h, fun ds m' a xs H' h1 s1 M1 ha hm hH rx => q _ _ _ _ (h1 a hm) (s1.put hH) (M1.put ⟨xs, ha, rx⟩) (Rep.ref_.mpr rfl)⟩⟩
end

/-! ### tests -/
section
variable {X : Cx} {a b e : Expr} {rest : List Expr} {te ta tb : DTE} {tA tB : DTT} {pos : Pos}
/-- a value's truth, where it is a bool -/
def tBool (t : DTE) : DTT := fun r m R => t r m fun x m1 => match x with
  | .bl c => R c m1
  | _ => False
theorem dt_val (h : DE X e te) (he : ∀ whole, isTrue e X.env whole = (do let v ← whole; standAt e.pos; holding [v] (truthy v)) := by intro _; rfl) : DT X e (tBool te) :=
  ⟨(pt_val h.p he).of fun s H Q ⟨r, m, R, hs, M, h, q⟩ => ⟨r, m, _, hs, M, h, fun x m1 v H1 h1 s1 M1 q1 => by
    split at h1
    · rename_i c
      exact ⟨c, Rep.bl_.mp q1, q _ _ _ h1 s1 M1⟩
    · exact h1.elim⟩⟩
theorem dt_cmp {op : CmpOp} {r : R2} {g : G2} (ho : OpR X (compareOp op) r) (hg : Lift2 X.K r g) (ha : DE X a ta) (hb : DE X b tb) (hm : behindInMarks op b = false) : DT X (.Compare a [op] [b] pos) (tBool (d2 g ta tb)) :=
  ⟨(pt_cmpR ho ha.p hb.p hm).of fun s H Q ⟨ρ, m, R, hs, M, h, q⟩ => by
    refine l2 (K := X.K) hg s H _ ⟨ρ, m, _, hs, M, h, fun x m1 v H1 h1 s1 M1 q1 => ?_⟩
    split at h1
    · rename_i c
      exact ⟨c, Rep.bl_.mp q1, q _ _ _ h1 s1 M1⟩
    · exact h1.elim⟩
theorem dt_lt (ha : DE X a ta) (hb : DE X b tb) : DT X (.Compare a [.Lt] [b] pos) (tBool (dLt ta tb)) := dt_cmp op_lt lift_bl0 ha hb (nomark _)
theorem dt_le (ha : DE X a ta) (hb : DE X b tb) : DT X (.Compare a [.LtE] [b] pos) (tBool (dLe ta tb)) := dt_cmp op_le lift_bl0 ha hb (nomark _)
theorem dt_gt (ha : DE X a ta) (hb : DE X b tb) : DT X (.Compare a [.Gt] [b] pos) (tBool (dGt ta tb)) := dt_cmp op_gt lift_bl0 ha hb (nomark _)
theorem dt_ge (ha : DE X a ta) (hb : DE X b tb) : DT X (.Compare a [.GtE] [b] pos) (tBool (dGe ta tb)) := dt_cmp op_ge lift_bl0 ha hb (nomark _)
def tAnd' (t u : DTT) : DTT := fun r m R => t r m fun c m1 => if c = true then u r m1 R else R false m1
def tOr' (t u : DTT) : DTT := fun r m R => t r m fun c m1 => if c = true then R true m1 else u r m1 R
def tNot' (t : DTT) : DTT := fun r m R => t r m fun c m1 => R (!c) m1
theorem dw_and1 (ha : DT X a tA) : DW X (.BoolOp .And [a] pos) tA := ⟨pw_and1 ha.p⟩
theorem dw_or1 (ha : DT X a tA) : DW X (.BoolOp .Or [a] pos) tA := ⟨pw_or1 ha.p⟩
theorem dw_and (ha : DT X a tA) (hb : DW X (.BoolOp .And (b :: rest) pos) tB) : DW X (.BoolOp .And (a :: b :: rest) pos) (tAnd' tA tB) :=
  ⟨(pw_and ha.p hb.p).of fun s H Q ⟨r, m, R, hs, M, h, q⟩ => ⟨r, m, _, hs, M, h, fun c m1 H1 h1 s1 M1 => by
    cases c with
    | true => exact ⟨r, m1, R, hs.keep s1.keep, M1, h1, q.step s1⟩
    | false => exact q _ _ _ h1 s1 M1⟩⟩
theorem dw_or (ha : DT X a tA) (hb : DW X (.BoolOp .Or (b :: rest) pos) tB) : DW X (.BoolOp .Or (a :: b :: rest) pos) (tOr' tA tB) :=
  ⟨(pw_or ha.p hb.p).of fun s H Q ⟨r, m, R, hs, M, h, q⟩ => ⟨r, m, _, hs, M, h, fun c m1 H1 h1 s1 M1 => by
    cases c with
    | false => exact ⟨r, m1, R, hs.keep s1.keep, M1, h1, q.step s1⟩
    | true => exact q _ _ _ h1 s1 M1⟩⟩
theorem DW.t (h : DW X a tA) : DT X a tA := ⟨h.p.pt⟩
theorem dt_not (ha : DT X a tA) : DT X (.UnaryOp .Not a pos) (tNot' tA) :=
  ⟨(pt_not ha.p).of fun s H Q ⟨r, m, R, hs, M, h, q⟩ => ⟨r, m, _, hs, M, h, fun c m1 H1 h1 s1 M1 => q _ _ _ h1 s1 M1⟩⟩
/-- bools as values -/
def dAndV (ta tb : DTE) : DTE := fun r m R => ta r m fun x m1 => match x with
  | .bl c => if c = true then tb r m1 R else R (.bl false) m1
  | _ => False
def dOrV (ta tb : DTE) : DTE := fun r m R => ta r m fun x m1 => match x with
  | .bl c => if c = true then R (.bl true) m1 else tb r m1 R
  | _ => False
def dNotV (ta : DTE) : DTE := fun r m R => ta r m fun x m1 => match x with
  | .bl c => R (.bl (!c)) m1
  | _ => False
theorem de_one {op} (h : DE X a ta) : DE X (.BoolOp op [a] pos) ta := ⟨pe_one h.p⟩
theorem de_and (ha : DE X a ta) (hb : DE X (.BoolOp .And (b :: rest) pos) tb) : DE X (.BoolOp .And (a :: b :: rest) pos) (dAndV ta tb) :=
  ⟨(pe_and ha.p hb.p).of fun s H Q ⟨r, m, R, hs, M, h, q⟩ => ⟨r, m, _, hs, M, h, fun x m1 v H1 h1 s1 M1 q1 => by
    split at h1
    · rename_i c
      refine ⟨c, Rep.bl_.mp q1, ?_⟩
      cases c with
      | true => exact ⟨r, m1, R, hs.keep s1.keep, M1, h1, q.step s1⟩
      | false => exact q _ _ _ _ h1 s1 M1 (Rep.bl_.mpr rfl)
    · exact h1.elim⟩⟩
theorem de_or (ha : DE X a ta) (hb : DE X (.BoolOp .Or (b :: rest) pos) tb) : DE X (.BoolOp .Or (a :: b :: rest) pos) (dOrV ta tb) :=
  ⟨(pe_or ha.p hb.p).of fun s H Q ⟨r, m, R, hs, M, h, q⟩ => ⟨r, m, _, hs, M, h, fun x m1 v H1 h1 s1 M1 q1 => by
    split at h1
    · rename_i c
      refine ⟨c, Rep.bl_.mp q1, ?_⟩
      cases c with
      | false => exact ⟨r, m1, R, hs.keep s1.keep, M1, h1, q.step s1⟩
      | true => exact q _ _ _ _ h1 s1 M1 (Rep.bl_.mpr rfl)
    · exact h1.elim⟩⟩
theorem de_not (ha : DE X a ta) : DE X (.UnaryOp .Not a pos) (dNotV ta) :=
  ⟨(pe_not ha.p).of fun s H Q ⟨r, m, R, hs, M, h, q⟩ => ⟨r, m, _, hs, M, h, fun x m1 v H1 h1 s1 M1 q1 => by
    split at h1
    · rename_i c
      exact ⟨c, Rep.bl_.mp q1, q _ _ _ _ h1 s1 M1 (Rep.bl_.mpr rfl)⟩
    · exact h1.elim⟩⟩
def dIf (t : DTT) (ta tb : DTE) : DTE := fun r m R => t r m fun c m1 => if c = true then ta r m1 R else tb r m1 R
theorem de_if {c : Expr} (hc : DT X c tA) (ha : DE X a ta) (hb : DE X b tb) : DE X (.IfExp c a b pos) (dIf tA ta tb) :=
  ⟨(pe_ifExp hc.p ha.p hb.p).of fun s H Q ⟨r, m, R, hs, M, h, q⟩ => ⟨r, m, _, hs, M, h, fun c m1 H1 h1 s1 M1 => by
    cases c with
    | true => exact ⟨r, m1, R, hs.keep s1.keep, M1, h1, q.step s1⟩
    | false => exact ⟨r, m1, R, hs.keep s1.keep, M1, h1, q.step s1⟩⟩⟩
end

/-! ### statements -/
section
variable {X : Cx} {st : Stmt} {rest : List Stmt} {t u : DTS} {e : Expr} {te : DTE} {pos : Pos}
def sNext : DTS := fun E r m => E.nx r m
def sSeq (t u : DTS) : DTS := fun E r m => t { E with nx := u E } r m
theorem ds_nil : DSs X [] sNext := ⟨pss_nil.of fun E' s H ⟨r, m, E, hs, M, h, q⟩ => q.nx.here h M hs⟩
theorem ds_cons (h1 : DS X st t) (h2 : DSs X rest u) : DSs X (st :: rest) (sSeq t u) :=
  ⟨(pss_cons h1.p h2.p).of fun E' s H ⟨r, m, E, hs, M, h, q⟩ => ⟨r, m, { E with nx := u E }, hs, M, h,
    ⟨fun r1 m1 s1 H1 h1 st1 M1 q1 => ⟨r1, m1, E, q1, M1, h1, q.step st1⟩, q.rt, q.bk, q.ct⟩⟩⟩
theorem ds_one (h1 : DS X st t) : DSs X [st] t := ⟨pss_one h1.p⟩
def sBreak : DTS := fun E r m => E.bk r m
def sCont : DTS := fun E r m => E.ct r m
theorem ds_pass : DS X (.Pass pos) sNext := ⟨ps_pass.of fun E' s H ⟨r, m, E, hs, M, h, q⟩ => q.nx.here h M hs⟩
theorem ds_break : DS X (.Break pos) sBreak := ⟨ps_break.of fun E' s H ⟨r, m, E, hs, M, h, q⟩ => q.bk.here h M hs⟩
theorem ds_cont : DS X (.Continue pos) sCont := ⟨ps_continue.of fun E' s H ⟨r, m, E, hs, M, h, q⟩ => q.ct.here h M hs⟩
def sDrop (te : DTE) : DTS := fun E r m => te r m fun _ m1 => E.nx r m1
theorem ds_expr (he : DE X e te) (hs : swapsWith e none pos.line X.env = pure false := by rfl) : DS X (.Expr e pos) (sDrop te) :=
  ⟨(ps_expr he.p hs).of fun E' s H ⟨r, m, E, hs, M, h, q⟩ => ⟨r, m, _, hs, M, h, fun x m1 v H1 h1 s1 M1 q1 => q.nx _ _ _ _ h1 s1 M1 (hs.keep s1.keep)⟩⟩
def sRet (te : DTE) : DTS := fun E r m => te r m E.rt
theorem ds_ret (he : DE X e te) : DS X (.Return (some e) pos) (sRet te) :=
  ⟨(ps_ret he.p).of fun E' s H ⟨r, m, E, hs, M, h, q⟩ => ⟨r, m, _, hs, M, h, q.rt⟩⟩
def sRetN : DTS := fun E _ m => E.rt .non m
theorem ds_retN : DS X (.Return none pos) sRetN := ⟨ps_retN.of fun E' s H ⟨r, m, E, hs, M, h, q⟩ => q.rt.here h M (Rep.non_.mpr rfl)⟩
def sIf (c : DTT) (t u : DTS) : DTS := fun E r m => c r m fun b m1 => if b = true then t E r m1 else u E r m1
theorem ds_if {c : Expr} {a b : List Stmt} {tc : DTT} (hc : DT X c tc) (ha : DSs X a t) (hb : DSs X b u) : DS X (.If c a b pos) (sIf tc t u) :=
  ⟨(ps_if hc.p ha.p hb.p).of fun E' s H ⟨r, m, E, hs, M, h, q⟩ => ⟨r, m, _, hs, M, h, fun c m1 H1 h1 s1 M1 => by
    cases c with
    | true => exact ⟨r, m1, E, hs.keep s1.keep, M1, h1, q.step s1⟩
    | false => exact ⟨r, m1, E, hs.keep s1.keep, M1, h1, q.step s1⟩⟩⟩
def sNever : DTS := fun _ _ _ => False
theorem ds_never : DS X st sNever := ⟨ps_never.of fun E' s H ⟨r, m, E, hs, M, h, q⟩ => h⟩

/-! ### targets -/
def gName' (i : Nat) : DTG := fun d r m R => R (r.set i (some d)) m
theorem dg_name {i : Nat} {x : Str} (hN : X.N.Nodup) (hi : X.N[i]? = some x) (hx : Loc X.env.scope x) (hf : X.fn x = true ∨ X.env.scope.names.lookup x = some .local := by first | exact .inl rfl | exact .inr rfl | assumption) : DG X (.Name x pos) (gName' i) :=
  ⟨(pg_name hN hi hx hf).of fun v s H Q ⟨d, r, m, R, rd, hs, M, h, q⟩ => q.here h M (hs.set rd i)⟩
def gNil' : DTGs := fun ds r m R => match ds with
  | [] => R r m
  | _ => False
def gCons' (t : DTG) (u : DTGs) : DTGs := fun ds r m R => match ds with
  | d :: ds => t d r m fun r' m' => u ds r' m' R
  | [] => False
theorem dgs_nil : DGs X [] gNil' := ⟨pgs_nil.of fun vs s H Q ⟨ds, r, m, R, rd, hs, M, h, q⟩ => by
  unfold gNil' at h
  split at h
  · unfold Reps at rd
    exact ⟨rd, q.here h M hs⟩
  · exact h.elim⟩
theorem dgs_cons {e : Expr} {es : List Expr} {t : DTG} {u : DTGs} (h1 : DG X e t) (h2 : DGs X es u)
    (hs : (assignEach (e :: es) X.env).map (·.2) = assign e X.env :: (assignEach es X.env).map (·.2) := by rfl) : DGs X (e :: es) (gCons' t u) :=
  ⟨(pgs_cons h1.p h2.p hs).of fun vs s H Q ⟨ds, r, m, R, rd, hs, M, h, q⟩ => by
    unfold gCons' at h
    split at h
    · unfold Reps at rd
      obtain ⟨v, vr, e, r1, r2⟩ := rd
      exact ⟨v, vr, e, _, r, m, _, r1, hs, M, h, fun r' m' s' H' h' st' M' q' => ⟨_, r', m', R, r2.keep st'.keep, q', M', h', q.step st'⟩⟩
    · exact h.elim⟩
def gTup' (n : Nat) (t : DTGs) : DTG := fun d r m R => match d with
  | .tup ds => ds.length = n ∧ t ds r m R
  | .ref a => match m a with
    | some (.lst ds) => ds.length = n ∧ t ds r m R
    | _ => False
  | _ => False
theorem _root_.L2.PG.or {X : Cx} {e : Expr} {t t' : TG} (h : PG X e t) (h' : PG X e t') : PG X e (fun v s H Q => t v s H Q ∨ t' v s H Q) := ⟨fun pins s σ H v u Q I r q => q.elim (h.run pins s σ H v u Q I r) (h'.run pins s σ H v u Q I r)⟩
theorem dg_tup {es : List Expr} {k : Nat} {t : DTGs} {n : Nat} (hc : X.calm = true) (h : DGs X es t)
    (hn : (assignEach es X.env).length = n := by rfl) (hst : (assignEach es X.env).findIdx? (·.1) = none := by rfl) : DG X (.Tuple es k pos) (gTup' n t) :=
  ⟨((pg_tup hc h.p hn hst).or (pg_lst hc h.p hn hst)).of fun v s H Q ⟨d, r, m, R, rd, hs, M, h, q⟩ => by
    unfold gTup' at h
    split at h
    · obtain ⟨p, xs, e, hp, rx⟩ := Rep.tup_.mp rd
      exact .inl ⟨p, xs, e, hp, by rw [← rx.length]; exact h.1, _, r, m, R, rx, hs, M, h.2, q⟩
    · rename_i a
      split at h
      · rename_i ds ed
        obtain rfl := Rep.ref_.mp rd
        obtain ⟨xs, hx, rx⟩ := M _ _ ed
        exact .inr ⟨a, xs, rfl, .inl (.inl hx), by rw [← rx.length]; exact h.1, _, r, m, R, rx, hs, M, h.2, q⟩
      · exact h.elim
    · exact h.elim⟩
def sAsg (te : DTE) (g : DTG) : DTS := fun E r m => te r m fun x m1 => g x r m1 E.nx
theorem ds_asg {tg e : Expr} {te : DTE} {g : DTG} (he : DE X e te) (hg : DG X tg g) (hs : swapsWithSole [tg] e pos.line X.env = pure false := by rfl) (hw : swappedStores [tg] e X.env = pure none := by rfl)
    (h1 : (assignEach [tg] X.env).map (·.2) = [assign tg X.env] := by rfl) : DS X (.Assign [tg] e pos) (sAsg te g) :=
  ⟨(ps_asg he.p hg.p hs hw h1).of fun E' s H ⟨r, m, E, hs, M, h, q⟩ => ⟨r, m, _, hs, M, h, fun x m1 v H1 h1 s1 M1 q1 => ⟨x, r, m1, E.nx, q1, hs.keep s1.keep, M1, h1, q.nx.step s1⟩⟩⟩
def sSet (i : Nat) (te : DTE) : DTS := fun E r m => te r m fun x m1 => E.nx (r.set i (some x)) m1
theorem ds_set {i : Nat} {x : Str} {e : Expr} {te : DTE} {pos' : Pos} (hN : X.N.Nodup) (hi : X.N[i]? = some x) (hx : Loc X.env.scope x) (he : DE X e te) (hs : swapsWith e (some (.Name x pos')) pos.line X.env = pure false := by rfl) (hf : X.fn x = true ∨ X.env.scope.names.lookup x = some .local := by first | exact .inl rfl | exact .inr rfl | assumption) :
    DS X (.Assign [.Name x pos'] e pos) (sSet i te) :=
  ⟨(ps_set hN hi hx he.p hs hf).of fun E' s H ⟨r, m, E, hs, M, h, q⟩ => ⟨r, m, _, hs, M, h, fun x m1 v H1 h1 s1 M1 q1 => q.nx _ _ _ _ h1 s1 M1 ((hs.keep s1.keep).set q1 i)⟩⟩
def sPar (i j : Nat) (ta tb : DTE) : DTS := fun E r m => ta r m fun x m1 => tb r m1 fun y m2 => E.nx ((r.set i (some x)).set j (some y)) m2
theorem ds_par {i j : Nat} {x y : Str} {a b : Expr} {ta tb : DTE} {px py pt : Pos} {kt k2 pt2} (hc : X.calm = true) (hN : X.N.Nodup) (hi : X.N[i]? = some x) (hj : X.N[j]? = some y) (hij : i ≠ j)
    (hx : X.env.scope.names.lookup x = some .local) (hy : X.env.scope.names.lookup y = some .local) (ha : DE X a ta) (hb : DE X b tb)
    (hw : swappedStores [.Tuple [.Name x px, .Name y py] kt pt] (.Tuple [a, b] k2 pt2) X.env = pure (some [x, y]) := by rfl)
    (hs : swapsWithSole [.Tuple [.Name x px, .Name y py] kt pt] (.Tuple [a, b] k2 pt2) pos.line X.env = pure false := by rfl)
    (s1 : starEach [a, b] X.env = (false, eval a X.env) :: starEach [b] X.env := by rfl) (s2 : starEach [b] X.env = (false, eval b X.env) :: starEach [] X.env := by rfl) :
    DS X (.Assign [.Tuple [.Name x px, .Name y py] kt pt] (.Tuple [a, b] k2 pt2) pos) (sPar i j ta tb) :=
  ⟨(ps_par hc hN hi hj hij hx hy (pa_cons ha.p (pa_cons hb.p pa_nil s2) s1) hw hs).of fun E' s H ⟨r, m, E, hs, M, h, q⟩ => ⟨r, m, _, hs, M, h, fun x m1 v H1 h1 s1 M1 q1 =>
    ⟨r, m1, _, hs.keep s1.keep, M1, h1, fun y m2 w H2 h2 s2 M2 q2 => ⟨v, w, rfl, q.nx _ _ _ _ h2 (s1.trans s2) M2 (((hs.keep (s1.trans s2).keep).set (q1.keep s2.keep) i).set q2 j)⟩⟩⟩⟩
/-- x op= e -/
def sAug (i : Nat) (te : DTE) (g : G2) : DTS := fun E r m => match r[i]? with
  | some (some x) => te r m fun y m1 => g x y m1 fun z m2 => E.nx (r.set i (some z)) m2
  | _ => False
theorem ds_aug {i : Nat} {x : Str} {e : Expr} {te : DTE} {op : Operator} {ti : R2} {g : G2} {pos' : Pos} (hN : X.N.Nodup) (hi : X.N[i]? = some x) (hx : Loc X.env.scope x) (he : DE X e te) (ho : OpR X (inplaceOp op) ti) (hg : Lift2 X.K ti g)
    (hf : X.fn x = true ∨ X.env.scope.names.lookup x = some .local := by first | exact .inl rfl | exact .inr rfl | assumption) :
    DS X (.AugAssign (.Name x pos') op e pos) (sAug i te g) :=
  ⟨(ps_aug hN hi hx he.p (show PIp X op ti from ho) hf).of fun E' s H ⟨r, m, E, hs, M, h, q⟩ => by
    unfold sAug at h
    split at h
    · rename_i d e1
      obtain ⟨v, e2, rv⟩ := hs.2 i d e1
      exact ⟨v, e2, r, m, _, hs, M, h, fun y m1 w H1 h1 s1 M1 q1 => hg H1 m1 d y v w _ _ M1 (rv.keep s1.keep) q1 h1 fun z m2 u H2 h2 s2 M2 q2 => q.nx _ _ _ _ h2 (s1.trans s2) M2 ((hs.keep (s1.trans s2).keep).set q2 i)⟩
    · exact h.elim⟩
theorem ds_augAdd {i : Nat} {x : Str} {e : Expr} {te : DTE} {pos' : Pos} (hN : X.N.Nodup) (hi : X.N[i]? = some x) (hx : Loc X.env.scope x) (he : DE X e te)
    (hf : X.fn x = true ∨ X.env.scope.names.lookup x = some .local := by first | exact .inl rfl | exact .inr rfl | assumption) :
    DS X (.AugAssign (.Name x pos') .Add e pos) (sAug i te (gI0 fun i j => .int (i + j))) := ds_aug hN hi hx he iop_add lift_int0 hf
end
end DL

namespace DL
open PySem PySem.Spec PyProof.Rows L2

/-! ### while -/
section
variable {X : Cx} {pos : Pos}
/-- by fuel -/
def whileN (c : DTT) (tb : DTS) : Nat → DTS
  | 0 => fun _ _ _ => False
  | n + 1 => fun E r m => c r m fun b m1 => if b = true then tb { E with nx := whileN c tb n E, ct := whileN c tb n E, bk := E.nx } r m1 else E.nx r m1
def sWhile (c : DTT) (tb : DTS) : DTS := fun E r m => ∃ n, whileN c tb n E r m
theorem ds_while {c : Expr} {body : List Stmt} {tc : DTT} {tb : DTS} (hp : PassesOwn (model X.prog X.w) X.A X.env X.xe) (hc : DT X c tc) (hb : DSs X body tb) : DS X (.While c body [] pos) (sWhile tc tb) :=
  ⟨(ps_while hp hc.p hb.p).of fun E' s H ⟨r, m, E, hs, M, ⟨n, h⟩, q⟩ => by
    refine ⟨fun n s H => ∃ r m, RepS X.K H r s ∧ RepM X.K H m ∧ whileN tc tb n E r m ∧ EndsOk X.K H m E E', ⟨n, r, m, hs, M, h, q⟩, ?_⟩
    rintro n s H ⟨r, m, hs, M, h, q⟩
    cases n with
    | zero => exact h.elim
    | succ n =>
      refine ⟨r, m, _, hs, M, h, fun b m1 H1 h1 s1 M1 => ?_⟩
      cases b with
      | true =>
        refine ⟨fun s H => ∃ r m, RepS X.K H r s ∧ RepM X.K H m ∧ whileN tc tb n E r m ∧ EndsOk X.K H m E E', fun s' H' z => ⟨n, Nat.lt_succ_self n, z⟩, r, m1, _, hs.keep s1.keep, M1, h1, ?_⟩
        exact ⟨fun r2 m2 s2 H2 h2 st2 M2 q2 => ⟨r2, m2, q2, M2, h2, (q.step s1).step st2⟩, (q.step s1).rt, (q.step s1).nx, fun r2 m2 s2 H2 h2 st2 M2 q2 => ⟨r2, m2, q2, M2, h2, (q.step s1).step st2⟩⟩
      | false => exact q.nx _ _ _ _ h1 s1 M1 (hs.keep s1.keep)⟩
end

/-! ### what a loop walks -/
/-- items, and what must stand at each turn -/
structure DIt where
  items : List D
  guard : Mu → Prop
/-- the iterator J gives these items, from the heap H on -/
structure ItL (K : PySem.W.Frag) (H0 : Hp) (m0 : Mu) (J : It) (it : DIt) (inv : Hp → Mu → Prop) : Prop where
  at0 : inv H0 m0
  step : ∀ H m H' m', Step K H m H' m' → inv H m → inv H' m'
  go : ∀ i H m, RepM K H m → inv H m → it.guard m → i < it.items.length → J.go i H
  stop : ∀ H m, RepM K H m → inv H m → it.guard m → J.stop it.items.length H
  yld : ∀ i H m x H', RepM K H m → inv H m → it.guard m → i < it.items.length → J.yld i H x H' → ∃ d, it.items[i]? = some d ∧ Step K H m H' m ∧ RepM K H' m ∧ Rep K H' d x
abbrev DTI := DSt → Mu → (DIt → Mu → Prop) → Prop
def lI (K : PySem.W.Frag) (wi : DTI) : TI := fun s H R => ∃ r m RR, RepS K H r s ∧ RepM K H m ∧ wi r m RR ∧ ∀ it m' H' J inv, RR it m' → Step K H m H' m' → RepM K H' m' → ItL K H' m' J it inv → R J H'
structure DI (X : Cx) (tg iter : Expr) (wi : DTI) : Prop where
  p : PI X tg iter (lI X.K wi)
theorem _root_.L2.PI.of {X : Cx} {tg e : Expr} {t t' : TI} (h : PI X tg e t') (i : ∀ s H R, t s H R → t' s H R) : PI X tg e t := ⟨fun pins s σ H R I q => h.run pins s σ H R I (i _ _ _ q)⟩

/-! ### for -/
def forL (G : Mu → Prop) (g : DTG) (tb : DTS) : List D → DTS
  | [] => fun E r m => G m ∧ E.nx r m
  | d :: ds => fun E r m => G m ∧ g d r m fun r' m' => tb { E with nx := forL G g tb ds E, ct := forL G g tb ds E, bk := E.nx } r' m'
def sFor (wi : DTI) (g : DTG) (tb : DTS) : DTS := fun E r m => wi r m fun it m1 => forL it.guard g tb it.items E r m1
section
variable {X : Cx} {tg iter : Expr} {pos : Pos}
theorem ds_for {body : List Stmt} {wi : DTI} {g : DTG} {tb : DTS} (hp : PassesOwn (model X.prog X.w) X.A X.env X.xe) (hc : X.calm = true) (hi : DI X tg iter wi) (hg : DG X tg g) (hb : DSs X body tb)
    (hs : ∀ x, foldedSetIterable iter X.env x = pure x := by intro _; rfl) : DS X (.For tg iter body [] pos) (sFor wi g tb) :=
  ⟨(ps_for hp hc hi.p hg.p hb.p hs).of fun E' s H ⟨r, m, E, hs, M, h, q⟩ => by
    refine ⟨r, m, _, hs, M, h, fun it m1 H1 J inv h1 s1 M1 L => ?_⟩
    refine ⟨fun i n s H => n = it.items.length - i ∧ i ≤ it.items.length ∧ ∃ r m, RepS X.K H r s ∧ RepM X.K H m ∧ inv H m ∧ forL it.guard g tb (it.items.drop i) E r m ∧ EndsOk X.K H m E E',
      ⟨it.items.length, rfl, Nat.zero_le _, r, m1, hs.keep s1.keep, M1, L.at0, h1, q.step s1⟩, ?_⟩
    rintro i n s H ⟨rfl, hi, r, m, hs, M, hv, h, q⟩
    by_cases hlt : i < it.items.length
    · have ed : it.items.drop i = it.items[i] :: it.items.drop (i + 1) := List.drop_eq_getElem_cons hlt
      rw [ed] at h
      obtain ⟨hG, h⟩ := h
      refine .inr ⟨L.go i H m M hv hG hlt, fun s H => ∃ r m, RepS X.K H r s ∧ RepM X.K H m ∧ inv H m ∧ forL it.guard g tb (it.items.drop (i + 1)) E r m ∧ EndsOk X.K H m E E',
        fun s' H' z => ⟨it.items.length - (i + 1), by omega, rfl, hlt, z⟩, fun x H' y => ?_⟩
      obtain ⟨d, e, st, M', rd⟩ := L.yld i H m x H' M hv hG hlt y
      have e' : it.items[i] = d := by rw [List.getElem?_eq_getElem hlt] at e; exact Option.some.inj e
      rw [e'] at h
      refine ⟨d, r, m, _, rd, hs.keep st.keep, M', h, fun r2 m2 s2 H2 h2 st2 M2 q2 => ?_⟩
      have st02 := st.trans st2
      refine ⟨r2, m2, _, q2, M2, h2, ?_⟩
      exact ⟨fun r3 m3 s3 H3 h3 st3 M3 q3 => ⟨r3, m3, q3, M3, L.step _ _ _ _ (st02.trans st3) hv, h3, q.step (st02.trans st3)⟩, (q.step st02).rt, (q.step st02).nx,
        fun r3 m3 s3 H3 h3 st3 M3 q3 => ⟨r3, m3, q3, M3, L.step _ _ _ _ (st02.trans st3) hv, h3, q.step (st02.trans st3)⟩⟩
    · have e : i = it.items.length := by omega
      subst e
      rw [List.drop_length] at h
      exact .inl ⟨L.stop H m M hv h.1, q.nx.here h.2 M hs⟩⟩

/-! ### iterables -/
/-- a list or a tuple -/
def iSeqV (K : PySem.W.Frag) (tl : TE) : TI := fun σ H R => tl σ H fun x H1 => (∃ a, x = .ref a ∧ (∃ xs, SqL K H1 a xs) ∧ R (Itl K a) H1) ∨ ∃ a, x = .ref a ∧ (∃ xs, SqT K H1 a xs) ∧ R (Itt K a) H1
theorem pi_seq {l : Expr} {tl : TE} (hl : PE X l tl) : PI X tg l (iSeqV X.K tl) := by
  refine ⟨fun pins s σ H R I h => ?_⟩
  refine thn (hl.run pins s σ H _ I h) fun v s1 ⟨x, H1, I1, r1, q1⟩ => ?_
  rcases q1 with ⟨a, e, ⟨xs, hq⟩, q⟩ | ⟨a, e, ⟨xs, hq⟩, q⟩
  · subst e
    cases r1
    obtain ⟨its, rv, p, hz⟩ := I1.list hq
    refine wpAny_pyIter_list p.isList ?_
    refine ⟨s1.heap.objs.size, [s1.heap.objs.size], _, _, H1, rfl, I1.kept (t' := s1.toks) fun b o e => Heap.get?_push_of_some _ e, turn_list a _, ⟨_, Heap.get?_push_size _ rfl, rfl, rfl⟩, fun b hb => ?_, q⟩
    have e : b = s1.heap.objs.size := by simpa using hb
    subst e
    exact I1.fpOk (Nat.le_refl _) (I1.hok.fresh (Nat.le_refl _))
  · subst e
    cases r1
    obtain ⟨its, rv, p, hz⟩ := I1.tuple hq
    refine wpAny_pyIter_tuple (show s1.heap.IsTuple a its.toArray from p) ?_
    refine ⟨s1.heap.objs.size, [s1.heap.objs.size], _, _, H1, rfl, I1.kept (t' := s1.toks) fun b o e => Heap.get?_push_of_some _ e, turn_tuple a _, ⟨_, Heap.get?_push_size _ rfl, rfl, rfl⟩, fun b hb => ?_, q⟩
    have e : b = s1.heap.objs.size := by simpa using hb
    subst e
    exact I1.fpOk (Nat.le_refl _) (I1.hok.fresh (Nat.le_refl _))
/-- its reading: the items; a list must stand as it is at each turn -/
def seqIt (m : Mu) : D → Option DIt
  | .tup ds => some ⟨ds, fun _ => True⟩
  | .rl ds => some ⟨ds, fun _ => True⟩
  | .ref a => match m a with
    | some (.lst ds) => some ⟨ds, fun m => m a = some (.lst ds)⟩
    | _ => none
  | _ => none
def iSeq (te : DTE) : DTI := fun r m R => te r m fun x m1 => match seqIt m1 x with
  | some it => R it m1
  | none => False
theorem itl_list {K : PySem.W.Frag} {a : Addr} {J : It} {it : DIt} {H0 : Hp} {m0 : Mu} (hJ : J = Itl K a) (inv : Hp → Mu → Prop) (h0 : inv H0 m0) (hs : ∀ H m H' m', Step K H m H' m' → inv H m → inv H' m')
    (hq : ∀ H m, RepM K H m → inv H m → it.guard m → ∃ xs, SqL K H a xs ∧ Reps K H it.items xs) : ItL K H0 m0 J it inv := by
  subst hJ
  refine ⟨h0, hs, fun i H m M hv hG hi => ?_, fun H m M hv hG => ?_, fun i H m x H' M hv hG hi y => ?_⟩
  · obtain ⟨xs, q, r⟩ := hq H m M hv hG
    obtain ⟨v, e, _⟩ := r.get (List.getElem?_eq_getElem hi)
    exact ⟨xs, v, q, e⟩
  · obtain ⟨xs, q, r⟩ := hq H m M hv hG
    exact ⟨xs, q, by rw [r.length]; exact Nat.le_refl _⟩
  · obtain ⟨xs, q, r⟩ := hq H m M hv hG
    obtain ⟨rfl, y⟩ := y
    obtain ⟨d, e, rd⟩ := r.get' (y xs q)
    exact ⟨d, e, Step.refl K _ m, M, rd⟩
theorem itl_tup {K : PySem.W.Frag} {a : Addr} {J : It} {it : DIt} {H0 : Hp} {m0 : Mu} (hJ : J = Itt K a) (inv : Hp → Mu → Prop) (h0 : inv H0 m0) (hs : ∀ H m H' m', Step K H m H' m' → inv H m → inv H' m')
    (hq : ∀ H m, RepM K H m → inv H m → it.guard m → ∃ xs, SqT K H a xs ∧ Reps K H it.items xs) : ItL K H0 m0 J it inv := by
  subst hJ
  refine ⟨h0, hs, fun i H m M hv hG hi => ?_, fun H m M hv hG => ?_, fun i H m x H' M hv hG hi y => ?_⟩
  · obtain ⟨xs, q, r⟩ := hq H m M hv hG
    obtain ⟨v, e, _⟩ := r.get (List.getElem?_eq_getElem hi)
    exact ⟨xs, v, q, e⟩
  · obtain ⟨xs, q, r⟩ := hq H m M hv hG
    exact ⟨xs, q, by rw [r.length]; exact Nat.le_refl _⟩
  · obtain ⟨xs, q, r⟩ := hq H m M hv hG
    obtain ⟨rfl, y⟩ := y
    obtain ⟨d, e, rd⟩ := r.get' (y xs q)
    exact ⟨d, e, Step.refl K _ m, M, rd⟩
theorem di_seq {l : Expr} {te : DTE} (hl : DE X l te) : DI X tg l (iSeq te) :=
  ⟨(pi_seq hl.p).of fun s H R ⟨r, m, RR, hs, M, h, q⟩ => by
    refine ⟨r, m, _, hs, M, h, fun x m1 v H1 h1 s1 M1 q1 => ?_⟩
    unfold seqIt at h1
    split at h1
    · rename_i it e
      split at e
      · cases e
        rename_i ds
        obtain ⟨a, xs, rfl, hx, rx⟩ := Rep.tup_.mp q1
        exact .inr ⟨a, rfl, ⟨xs, hx⟩, q _ _ _ _ _ h1 s1 M1 (itl_tup rfl (fun H m => SqT X.K H a xs ∧ Reps X.K H ds xs) ⟨hx, rx⟩ (fun H m H' m' st z => ⟨st.keep.t _ _ z.1, z.2.keep st.keep⟩) fun H m M hv _ => ⟨xs, hv⟩)⟩
      · cases e
        rename_i ds
        unfold Rep at q1
        obtain ⟨a, xs, rfl, hx, rx⟩ := q1
        exact .inl ⟨a, rfl, ⟨xs, hx.sq⟩, q _ _ _ _ _ h1 s1 M1 (itl_list rfl (fun H m => RoL X.K H a xs ∧ Reps X.K H ds xs) ⟨hx, rx⟩ (fun H m H' m' st z => ⟨st.keep.l _ _ z.1, z.2.keep st.keep⟩) fun H m M hv _ => ⟨xs, hv.1.sq, hv.2⟩)⟩
      · rename_i a
        split at e
        · cases e
          rename_i ds e
          obtain rfl := Rep.ref_.mp q1
          obtain ⟨xs, hx, rx⟩ := M1 a _ e
          refine .inl ⟨a, rfl, ⟨xs, SqL.of hx⟩, q _ _ _ _ _ h1 s1 M1 (itl_list rfl (fun H m => True) trivial (fun _ _ _ _ _ _ => trivial) fun H m M hv hG => ?_)⟩
          obtain ⟨xs, hx, rx⟩ := M a _ hG
          exact ⟨xs, SqL.of hx, rx⟩
        · cases e
      · cases e
    · exact h1.elim⟩
/-- a new list, walked -/
def iNew (t : DTA) : DTI := fun r m R => t r m fun ds m1 => R ⟨ds, fun _ => True⟩ m1
theorem di_new {l : Expr} {t : DTA} (hl : DN X l t) : DI X tg l (iNew t) :=
  ⟨(pi_list hl.p).of fun s H R ⟨r, m, RR, hs, M, h, q⟩ => by
    refine ⟨r, m, _, hs, M, h, fun ds m1 a xs H1 h1 s1 M1 ha hm hH rx => ?_⟩
    refine ⟨a, rfl, ⟨xs, SqL.of ha⟩, q _ _ _ _ _ h1 s1 M1 (itl_list rfl (fun H m => m a = none ∧ H a = some (.lst xs) ∧ Reps X.K H ds xs) ⟨hm, ha, rx⟩ (fun H m H' m' st z => ⟨?_, st.fr _ _ z.2.1 z.1, z.2.2.keep st.keep⟩) fun H m M hv _ => ⟨xs, SqL.of hv.2.1, hv.2.2⟩)⟩
    cases e : m' a with
    | none => rfl
    | some o => have := st.dom a o e z.1; rw [z.2.1] at this; cases this⟩
/-- range -/
def rngItems (lo : Int) (n : Nat) : List D := (List.range n).map fun (i : Nat) => D.int (lo + (i : Int))
theorem itl_range {K : PySem.W.Frag} {lo : Int} {n : Nat} {H0 : Hp} {m0 : Mu} : ItL K H0 m0 (Itr lo n) ⟨rngItems lo n, fun _ => True⟩ (fun _ _ => True) := by
  refine ⟨trivial, fun _ _ _ _ _ _ => trivial, fun i H m M hv hG hi => ?_, fun H m M hv hG => ?_, fun i H m x H' M hv hG hi y => ?_⟩
  · show i < n
    simpa [rngItems] using hi
  · show n ≤ (rngItems lo n).length
    simp [rngItems]
  · obtain ⟨rfl, rfl⟩ := y
    have hi' : i < n := by simpa [rngItems] using hi
    exact ⟨.int (lo + i), by simp [rngItems, hi'], Step.refl K _ m, M, Rep.int_.mpr rfl⟩
def iRng1' (t : DTE) : DTI := fun r m R => t r m fun x m1 => match x with
  | .int j => (-(2 ^ 62) ≤ j ∧ j < 2 ^ 62) ∧ R ⟨rngItems 0 j.toNat, fun _ => True⟩ m1
  | _ => False
def iRng2' (t u : DTE) : DTI := fun r m R => t r m fun x m1 => u r m1 fun y m2 => match x, y with
  | .int i, .int j => (-(2 ^ 62) ≤ i ∧ i < 2 ^ 62 ∧ -(2 ^ 62) ≤ j ∧ j < 2 ^ 62) ∧ R ⟨rngItems i (j - i).toNat, fun _ => True⟩ m2
  | _, _ => False
theorem di_range1 {a : Expr} {ta : DTE} {p : Pos} (hg : Gl X "range") (hm : X.mg "range" = none) (ha : DE X a ta) (hs : starEach [a] X.env = [(false, eval a X.env)] := by rfl) : DI X tg (.Call (.Name "range" p) [a] [] pos) (iRng1' ta) :=
  ⟨(pi_range1 hg hm (pa_cons ha.p pa_nil hs) hs).of fun s H R ⟨r, m, RR, hs, M, h, q⟩ => ⟨r, m, _, hs, M, h, fun x m1 v H1 h1 s1 M1 q1 => by
    split at h1
    · rename_i j
      obtain rfl := Rep.int_.mp q1
      exact ⟨j, rfl, h1.1.1, h1.1.2, q _ _ _ _ _ h1.2 s1 M1 itl_range⟩
    · exact h1.elim⟩⟩
theorem di_range2 {a b : Expr} {ta tb : DTE} {p : Pos} (hg : Gl X "range") (hm : X.mg "range" = none) (ha : DE X a ta) (hb : DE X b tb) (hs : starEach [a, b] X.env = [(false, eval a X.env), (false, eval b X.env)] := by rfl) (hs2 : starEach [b] X.env = [(false, eval b X.env)] := by rfl)
    (hs3 : starEach [a, b] X.env = (false, eval a X.env) :: starEach [b] X.env := by rfl) : DI X tg (.Call (.Name "range" p) [a, b] [] pos) (iRng2' ta tb) :=
  ⟨(pi_range2 hg hm (pa_cons ha.p (pa_cons hb.p pa_nil hs2) hs3) hs hs2).of fun s H R ⟨r, m, RR, hs, M, h, q⟩ => ⟨r, m, _, hs, M, h, fun x m1 v H1 h1 s1 M1 q1 => ⟨r, m1, _, hs.keep s1.keep, M1, h1, fun y m2 w H2 h2 s2 M2 q2 => by
    split at h2
    · rename_i i j
      obtain rfl := Rep.int_.mp q1
      obtain rfl := Rep.int_.mp q2
      exact ⟨i, j, rfl, h2.1, q _ _ _ _ _ h2.2 (s1.trans s2) M2 itl_range⟩
    · exact h2.elim⟩⟩⟩
end
end DL

namespace DL
open PySem PySem.Spec PyProof.Rows L2

/-! ### defs and their promises over data -/
/-- an exception: its class, the value that it keeps as row -/
abbrev DXK := Addr → Option D → Mu → Prop
abbrev DSp := List D → Mu → DK → DXK → Prop
def RepX (K : PySem.W.Frag) (H : Hp) : Option D → Option Addr → Prop
  | none, d => d = none
  | some x, d => ∃ dd v, d = some dd ∧ H dd = some (.xd [("row", v)]) ∧ Rep K H x v
def DoneX (K : PySem.W.Frag) (H : Hp) (m : Mu) (EE : DXK) (E : XK) : Prop := ∀ C o m' d H', EE C o m' → Step K H m H' m' → RepM K H' m' → RepX K H' o d → E (.ref C) d H'
theorem DoneX.step {K : PySem.W.Frag} {H H1 : Hp} {m m1 : Mu} {EE : DXK} {E : XK} (h : DoneX K H m EE E) (s : Step K H m H1 m1) : DoneX K H1 m1 EE E := fun C o m' d H' e s' M r => h C o m' d H' e (s.trans s') M r
def lSp (K : PySem.W.Frag) (sp : DSp) : Sp := fun vs H Q E => ∃ ds m R EE, Reps K H ds vs ∧ RepM K H m ∧ sp ds m R EE ∧ Done K H m R Q ∧ DoneX K H m EE E
def X0 : DXK := fun _ _ _ => False
/-- f(..), nothing raised -/
def dCall (sp : DSp) (t : DTA) : DTE := fun r m R => t r m fun ds m1 => sp ds m1 R X0
/-- names at the entry -/
def dstart (n : Nat) (ds : List D) : DSt := ds.map some ++ List.replicate (n - ds.length) none
/-- behind a def: what it made and does not hand back may be forgotten -/
def fin (R : DK) : DK := fun d m => ∃ m', Sub m' m ∧ R d m'
theorem fin_of {R : DK} {d : D} {m : Mu} (h : R d m) : fin R d m := ⟨m, Sub.refl m, h⟩
def dends (R : DK) : DEnds := { nx := fun _ m => fin R .non m, rt := fin R }
section
variable {P : Program} {w : World} {K : PySem.W.Frag} {mg : Str → Option Value} {base : Heap}
theorem RepS.start {H : Hp} {N : List Str} {ds : List D} {vs : List V} (r : Reps K H ds vs) : RepS K H (dstart N.length ds) (L2.start N vs) := by
  have hl := r.length
  refine ⟨?_, fun i d e => ?_⟩
  · unfold dstart L2.start; simp [hl]
  · unfold dstart at e
    unfold L2.start
    by_cases hi : i < ds.length
    · rw [List.getElem?_append_left (by simpa using hi), List.getElem?_map] at e
      rw [List.getElem?_append_left (by simp; omega), List.getElem?_map]
      cases q : ds[i]? with
      | none => rw [q] at e; cases e
      | some c =>
        rw [q] at e
        have e' : c = d := by simpa using e
        subst e'
        obtain ⟨v, ev, rv⟩ := r.get q
        exact ⟨v, by rw [ev]; rfl, rv⟩
    · rw [List.getElem?_append_right (by simpa using hi), List.getElem?_replicate] at e
      split at e <;> cases e
theorem dends_ok {H : Hp} {m : Mu} {R : DK} {Q : VK} (q : Done K H m R Q) : EndsOk K H m (dends R) { nx := fun _ H' => Q .non H', rt := Q } :=
  ⟨fun r m' s H' ⟨m2, sb, h⟩ st M _ => q _ _ _ _ h (st.sub sb) (M.sub sb) (Rep.non_.mpr rfl), fun d m' v H' ⟨m2, sb, h⟩ st M rd => q _ _ _ _ h (st.sub sb) (M.sub sb) rd,
   fun _ _ _ _ h => h.elim, fun _ _ _ _ h => h.elim⟩
/-- THE RULE for a def that lets no exception out -/
theorem def_ok {x qual : Str} {st : Stmt} {f : Addr} {fd : FuncData} {N ps : List Str} {k : Nat} {sp : DSp} {t : DTS} (F : Fun K x qual st f fd) (S : FnScope N ps (defScope st)) (len : ∀ ds m R E, sp ds m R E → ds.length = ps.length)
    (hder : ∀ (cdv : Value) (A : Around) (outer : List Env) (s : Shared) (H : Hp) (E : XK), Room k (A.deeper (envOfC qual (defScope st) s.heap.objs.size f cdv)) → DSs (cxOf CX0 P w K mg base N qual (defScope st) f cdv A outer s H E).nox (defBody st) t)
    (hread : ∀ ds m R E, sp ds m R E → t (dends R) (dstart N.length ds) m) : FnOk P w K mg base CX0 (k + 1) f fd ps (lSp K sp) := by
  refine F.ok S (fun vs H Q E h => ?_) (fun cdv A outer s H vs Q E hr h => ?_)
  · obtain ⟨ds, m, R, EE, r, _, h, _⟩ := h
    rw [← r.length]; exact len _ _ _ _ h
  · obtain ⟨ds, m, R, EE, r, M, h, q, _⟩ := h
    exact ⟨_, (hder cdv A outer s H E hr).p, dstart N.length ds, m, dends R, RepS.start r, M, hread _ _ _ _ h, dends_ok q⟩
end

section
variable {X : Cx} {e o : Expr} {es : List Expr} {te to : DTE} {t : DTA} {p pos apos cpos : Pos} {x : Str}
theorem de_call {k : Nat} {f : Addr} {fd : FuncData} {ps : List Str} {sp : DSp} (F : FnOk X.prog X.w X.K X.mg X.base CX0 k f fd ps (lSp X.K sp)) (hr : Room k X.A) (hg : Gl X x) (hm : X.mg x = some (.ref f)) (hk : PySem.W.keepIn X.K (.ref f) = true) (hb : Binds X.K fd ps [])
    (ha : DA X (e :: es) t) (hdb : (x == ("__debug__" : Str)) = false := by decide) (he : starEach (e :: es) X.env = (false, eval e X.env) :: starEach es X.env := by rfl) (hpl : (backTo pos (starEach es X.env)).any (·.1) = false := by rfl) :
    DE X (.Call (.Name x p) (e :: es) [] pos) (dCall sp t) :=
  ⟨(pe_call F hr hg hm hk hb .nil pass0 ha.p hdb he hpl).of fun s H Q ⟨r, m, R, hs, M, h, q⟩ => ⟨r, m, _, hs, M, h, fun ds m1 vs H1 h1 s1 M1 q1 => by
    show lSp X.K sp (vs ++ []) H1 Q E0
    rw [List.append_nil]
    exact ⟨ds, m1, R, X0, q1, M1, h1, q.step s1, fun _ _ _ _ _ h => h.elim⟩⟩⟩
theorem de_call0 {k : Nat} {f : Addr} {fd : FuncData} {sp : DSp} (F : FnOk X.prog X.w X.K X.mg X.base CX0 k f fd [] (lSp X.K sp)) (hr : Room k X.A) (hg : Gl X x) (hm : X.mg x = some (.ref f)) (hk : PySem.W.keepIn X.K (.ref f) = true) (hb : Binds X.K fd [] [])
    (hdb : (x == ("__debug__" : Str)) = false := by decide) : DE X (.Call (.Name x p) [] [] pos) (dCall sp aNil) :=
  ⟨(pe_call0 F hr hg hm hk hb .nil pass0 hdb).of fun s H Q ⟨r, m, R, hs, M, h, q⟩ => ⟨[], m, R, X0, Reps.nil, M, h, q, fun _ _ _ _ _ h => h.elim⟩⟩

/-! ### built-ins by name -/
def LiftC (K : PySem.W.Frag) (r : List V → Hp → VK → Prop) (g : List D → Mu → DK → Prop) : Prop := ∀ H m ds vs R Q, RepM K H m → Reps K H ds vs → g ds m R → Done K H m R Q → r vs H Q
def dB (g : List D → Mu → DK → Prop) (t : DTA) : DTE := fun r m R => t r m fun ds m1 => g ds m1 R
theorem lB {K : PySem.W.Frag} {r : List V → Hp → VK → Prop} {g : List D → Mu → DK → Prop} (hg : LiftC K r g) : ∀ s H Q, lE K (dB g t) s H Q → tCB r (lA K t) s H Q := fun s H Q ⟨ρ, m, R, hs, M, h, q⟩ =>
  ⟨ρ, m, _, hs, M, h, fun ds m1 vs H1 h1 s1 M1 q1 => hg H1 m1 ds vs R Q M1 q1 h1 (q.step s1)⟩
theorem de_b {id : String} {r : List V → Hp → VK → Prop} {g : List D → Mu → DK → Prop} (hc : CallR X (.builtin id) r) (hg : LiftC X.K r g) (gl : Gl X x) (hm : X.mg x = none) (hv : bootBuiltins x = some (.builtin id)) (ha : DA X (e :: es) t) (hn : x ≠ "__name__" := by decide) (hdb : (x == ("__debug__" : Str)) = false := by decide)
    (he : starEach (e :: es) X.env = (false, eval e X.env) :: starEach es X.env := by rfl) (hpl : (backTo pos (starEach es X.env)).any (·.1) = false := by rfl) : DE X (.Call (.Name x p) (e :: es) [] pos) (dB g t) :=
  ⟨(pe_callB hc gl hm hv ha.p hn hdb he hpl).of (lB hg)⟩
theorem de_ty {T : String} {r : List V → Hp → VK → Prop} {g : List D → Mu → DK → Prop} (hc : CallR X (.type T) r) (hg : LiftC X.K r g) (gl : Gl X x) (hm : X.mg x = none) (hv : bootBuiltins x = some (.type T)) (ha : DA X (e :: es) t) (hn : x ≠ "__name__" := by decide) (hdb : (x == ("__debug__" : Str)) = false := by decide)
    (he : starEach (e :: es) X.env = (false, eval e X.env) :: starEach es X.env := by rfl) (hpl : (backTo pos (starEach es X.env)).any (·.1) = false := by rfl) : DE X (.Call (.Name x p) (e :: es) [] pos) (dB g t) :=
  ⟨(pe_callTy hc gl hm hv ha.p hn hdb he hpl).of (lB hg)⟩
theorem Reps.one_ {K : PySem.W.Frag} {H : Hp} {d : D} {vs : List V} (h : Reps K H [d] vs) : ∃ v, vs = [v] ∧ Rep K H d v := by
  unfold Reps at h
  obtain ⟨v, r, e, h1, h2⟩ := h
  unfold Reps at h2
  subst h2
  exact ⟨v, e, h1⟩
theorem Reps.two_ {K : PySem.W.Frag} {H : Hp} {d d2 : D} {vs : List V} (h : Reps K H [d, d2] vs) : ∃ v w, vs = [v, w] ∧ Rep K H d v ∧ Rep K H d2 w := by
  unfold Reps at h
  obtain ⟨v, r, e, h1, h2⟩ := h
  obtain ⟨w, e2, h3⟩ := h2.one_
  subst e2
  exact ⟨v, w, e, h1, h3⟩
/-- abs -/
def gAbs : List D → Mu → DK → Prop := fun ds m R => match ds with
  | [.int i] => R (.int (if i < 0 then -i else i)) m
  | _ => False
theorem de_abs (gl : Gl X "abs") (hm : X.mg "abs" = none) (ha : DA X [e] t) (he : starEach [e] X.env = (false, eval e X.env) :: starEach [] X.env := by rfl) (hpl : (backTo pos (starEach [] X.env)).any (·.1) = false := by rfl) : DE X (.Call (.Name "abs" p) [e] [] pos) (dB gAbs t) :=
  de_b call_abs (fun H m ds vs R Q M r h q => by
    unfold gAbs at h
    split at h
    · rename_i i
      obtain ⟨v, rfl, rv⟩ := r.one_
      obtain rfl := Rep.int_.mp rv
      exact ⟨i, rfl, q.here h M (Rep.int_.mpr rfl)⟩
    · exact h.elim) gl hm (by decide +kernel) ha (by decide) (by decide) he hpl
def gMax2 : List D → Mu → DK → Prop := fun ds m R => match ds with
  | [.int i, .int j] => R (.int (if j > i then j else i)) m
  | _ => False
def gMin2 : List D → Mu → DK → Prop := fun ds m R => match ds with
  | [.int i, .int j] => R (.int (if j < i then j else i)) m
  | _ => False
theorem de_max2 {e2 : Expr} (hc : X.calm = true) (gl : Gl X "max") (hm : X.mg "max" = none) (ha : DA X [e, e2] t) (he : starEach [e, e2] X.env = (false, eval e X.env) :: starEach [e2] X.env := by rfl) (hpl : (backTo pos (starEach [e2] X.env)).any (·.1) = false := by rfl) : DE X (.Call (.Name "max" p) [e, e2] [] pos) (dB gMax2 t) :=
  de_b (call_max2 hc) (fun H m ds vs R Q M r h q => by
    unfold gMax2 at h
    split at h
    · rename_i i j
      obtain ⟨v, w, rfl, rv, rw'⟩ := r.two_
      obtain rfl := Rep.int_.mp rv
      obtain rfl := Rep.int_.mp rw'
      exact ⟨i, j, rfl, q.here h M (Rep.int_.mpr rfl)⟩
    · exact h.elim) gl hm (by decide +kernel) ha (by decide) (by decide) he hpl
theorem de_min2 {e2 : Expr} (hc : X.calm = true) (gl : Gl X "min") (hm : X.mg "min" = none) (ha : DA X [e, e2] t) (he : starEach [e, e2] X.env = (false, eval e X.env) :: starEach [e2] X.env := by rfl) (hpl : (backTo pos (starEach [e2] X.env)).any (·.1) = false := by rfl) : DE X (.Call (.Name "min" p) [e, e2] [] pos) (dB gMin2 t) :=
  de_b (call_min2 hc) (fun H m ds vs R Q M r h q => by
    unfold gMin2 at h
    split at h
    · rename_i i j
      obtain ⟨v, w, rfl, rv, rw'⟩ := r.two_
      obtain rfl := Rep.int_.mp rv
      obtain rfl := Rep.int_.mp rw'
      exact ⟨i, j, rfl, q.here h M (Rep.int_.mpr rfl)⟩
    · exact h.elim) gl hm (by decide +kernel) ha (by decide) (by decide) he hpl
def gInt : List D → Mu → DK → Prop := fun ds m R => match ds with
  | [.int i] => R (.int i) m
  | [.bl k] => R (.int (if k then 1 else 0)) m
  | _ => False
theorem de_intOf (gl : Gl X "int") (hm : X.mg "int" = none) (ha : DA X [e] t) (he : starEach [e] X.env = (false, eval e X.env) :: starEach [] X.env := by rfl) (hpl : (backTo pos (starEach [] X.env)).any (·.1) = false := by rfl) : DE X (.Call (.Name "int" p) [e] [] pos) (dB gInt t) :=
  de_ty call_int1 (fun H m ds vs R Q M r h q => by
    unfold gInt at h
    split at h
    · rename_i i
      obtain ⟨v, rfl, rv⟩ := r.one_
      obtain rfl := Rep.int_.mp rv
      exact .inl ⟨i, rfl, q.here h M (Rep.int_.mpr rfl)⟩
    · rename_i k
      obtain ⟨v, rfl, rv⟩ := r.one_
      obtain rfl := Rep.bl_.mp rv
      exact .inr ⟨k, rfl, q.here h M (Rep.int_.mpr rfl)⟩
    · exact h.elim) gl hm (by decide +kernel) ha (by decide) (by decide) he hpl
/-- len of a row or a text -/
def gLen : List D → Mu → DK → Prop := fun ds m R => match ds with
  | [.str z] => z.length ≤ sizeLine ∧ R (.int z.length) m
  | [d] => match seqOf m d with
    | some xs => R (.int xs.length) m
    | none => False
  | _ => False
theorem de_len (gl : Gl X "len") (hm : X.mg "len" = none) (ha : DA X [e] t) (he : starEach [e] X.env = (false, eval e X.env) :: starEach [] X.env := by rfl) (hpl : (backTo pos (starEach [] X.env)).any (·.1) = false := by rfl) : DE X (.Call (.Name "len" p) [e] [] pos) (dB gLen t) :=
  de_b (call_len_seq.or call_len_str) (fun H m ds vs R Q M r h q => by
    unfold gLen at h
    split at h
    · rename_i z
      obtain ⟨v, rfl, rv⟩ := r.one_
      obtain rfl := Rep.str_.mp rv
      exact .inr ⟨z, rfl, h.1, q.here h.2 M (Rep.int_.mpr rfl)⟩
    · rename_i d _
      split at h
      · rename_i xs ex
        obtain ⟨v, rfl, rv⟩ := r.one_
        obtain ⟨a, ys, rfl, hs, ry⟩ := seqOf_rep M rv ex
        exact .inl ⟨a, ys, rfl, hs, q.here h M (Rep.int_.mpr (by rw [ry.length]))⟩
      · exact h.elim
    · exact h.elim) gl hm (by decide +kernel) ha (by decide) (by decide) he hpl
/-- len of a new list -/
def dLenN (t : DTA) : DTE := fun r m R => t r m fun xs m1 => R (.int xs.length) m1
theorem de_lenN (gl : Gl X "len") (hm : X.mg "len" = none) (ha : DN X e t) (he : starEach [e] X.env = (false, eval e X.env) :: starEach [] X.env := by rfl) (hpl : (backTo pos (starEach [] X.env)).any (·.1) = false := by rfl) : DE X (.Call (.Name "len" p) [e] [] pos) (dLenN t) :=
  ⟨(pe_callB call_len_seq gl hm (by decide +kernel) (pa_cons ha.p pa_nil he) (by decide) (by decide) he hpl).of fun s H Q ⟨r, m, R, hs, M, h, q⟩ => ⟨r, m, _, hs, M, h, fun ds m1 a xs H1 h1 s1 M1 ha hm hH rx =>
    ⟨a, xs, rfl, .inl (SqL.of ha), q _ _ _ _ h1 s1 M1 (Rep.int_.mpr (by rw [rx.length]))⟩⟩⟩
/-- tuple(row), tuple(new list), list(row) -/
def gTupleOf : List D → Mu → DK → Prop := fun ds m R => match ds with
  | [d] => match seqOf m d with
    | some xs => R (.tup xs) m
    | none => False
  | _ => False
theorem de_tupleOf (gl : Gl X "tuple") (hm : X.mg "tuple" = none) (ha : DA X [e] t) (he : starEach [e] X.env = (false, eval e X.env) :: starEach [] X.env := by rfl) (hpl : (backTo pos (starEach [] X.env)).any (·.1) = false := by rfl) : DE X (.Call (.Name "tuple" p) [e] [] pos) (dB gTupleOf t) :=
  de_ty call_tuple_of (fun H m ds vs R Q M r h q => by
    unfold gTupleOf at h
    split at h
    · rename_i d
      split at h
      · rename_i xs ex
        obtain ⟨v, rfl, rv⟩ := r.one_
        obtain ⟨a, ys, rfl, hs, ry⟩ := seqOf_repN M rv ex
        rcases hs with hs | hs
        · exact ⟨a, ys, rfl, .inl ⟨hs, fun l hl => q _ _ _ _ h (Step.new hl) (M.new hl) (Rep.tup_.mpr ⟨l, ys, rfl, upd_same, ry.keep (Keep.new hl)⟩)⟩⟩
        · exact ⟨a, ys, rfl, .inr ⟨SqT.of hs, q.here h M (Rep.tup_.mpr ⟨a, ys, rfl, hs, ry⟩)⟩⟩
      · exact h.elim
    · exact h.elim) gl hm (by decide +kernel) ha (by decide) (by decide) he hpl
def dTupN (t : DTA) : DTE := fun r m R => t r m fun xs m1 => R (.tup xs) m1
theorem de_tupN (gl : Gl X "tuple") (hm : X.mg "tuple" = none) (ha : DN X e t) (he : starEach [e] X.env = (false, eval e X.env) :: starEach [] X.env := by rfl) (hpl : (backTo pos (starEach [] X.env)).any (·.1) = false := by rfl) : DE X (.Call (.Name "tuple" p) [e] [] pos) (dTupN t) :=
  ⟨(pe_callTy call_tuple_of gl hm (by decide +kernel) (pa_cons ha.p pa_nil he) (by decide) (by decide) he hpl).of fun s H Q ⟨r, m, R, hs, M, h, q⟩ => ⟨r, m, _, hs, M, h, fun ds m1 a xs H1 h1 s1 M1 ha hm hH rx =>
    ⟨a, xs, rfl, .inl ⟨SqL.of ha, fun l hl => q _ _ _ _ h1 (s1.trans (Step.new hl)) (M1.new hl) (Rep.tup_.mpr ⟨l, xs, rfl, upd_same, rx.keep (Keep.new hl)⟩)⟩⟩⟩⟩
def nListOf (te : DTE) : DTA := fun r m R => te r m fun d m1 => match seqOf m1 d with
  | some xs => R xs m1
  | none => False
theorem dn_listOf (gl : Gl X "list") (hm : X.mg "list" = none) (ha : DE X e te) (he : starEach [e] X.env = (false, eval e X.env) :: starEach [] X.env := by rfl) (hpl : (backTo pos (starEach [] X.env)).any (·.1) = false := by rfl) : DN X (.Call (.Name "list" p) [e] [] pos) (nListOf te) :=
  ⟨(pe_callTy call_list_of gl hm (by decide +kernel) (pa_cons ha.p pa_nil he) (by decide) (by decide) he hpl).of fun s H Q ⟨r, m, R, hs, M, h, q⟩ => ⟨r, m, _, hs, M, h, fun d m1 v H1 h1 s1 M1 q1 => by
    split at h1
    · rename_i xs ex
      obtain ⟨a, ys, rfl, hs, ry⟩ := seqOf_rep M1 q1 ex
      exact ⟨a, ys, rfl, hs, fun l hl => q _ _ _ _ _ h1 (s1.trans (Step.new hl)) (M1.new hl) upd_same (M1.free hl) (s1.th _ hl) (ry.keep (Keep.new hl))⟩
    · exact h1.elim⟩⟩

/-! ### methods of lists -/
def isLst (m : Mu) : D → Prop
  | .ref a => ∃ xs, m a = some (.lst xs)
  | _ => False
def dM (g : D → List D → Mu → DK → Prop) (to : DTE) (t : DTA) : DTE := fun r m R => to r m fun x m1 => isLst m1 x ∧ t r m1 fun xs m2 => g x xs m2 R
def LiftM (K : PySem.W.Frag) (r : V → List V → Hp → VK → Prop) (g : D → List D → Mu → DK → Prop) : Prop := ∀ H m d ds v vs R Q, RepM K H m → Rep K H d v → Reps K H ds vs → g d ds m R → Done K H m R Q → r v vs H Q
theorem isLst_ty {K : PySem.W.Frag} {H : Hp} {m : Mu} {x : D} {v : V} (h : isLst m x) (M : RepM K H m) (r : Rep K H x v) : tyV K "list" v H := by
  unfold isLst at h
  split at h
  · obtain ⟨ds, e⟩ := h
    obtain rfl := Rep.ref_.mp r
    obtain ⟨xs, hx, _⟩ := M _ _ e
    exact .inl ⟨rfl, xs, SqL.of hx⟩
  · exact h.elim
theorem de_m {id : String} {name : Str} {r : V → List V → Hp → VK → Prop} {g : D → List D → Mu → DK → Prop} (slot : Slot "list" name id) (hty : typeOf (.builtin id) = pure (.type "method_descriptor")) (hm : MtR X id r) (hg : LiftM X.K r g) (ho : DE X o to) (ha : DA X (e :: es) t)
    (hbase : attributeBase o name X.env (eval o X.env) = eval o X.env := by rfl)
    (hfew : ((backTo cpos (starEach (e :: es) X.env)).all (fun x => !x.1) && (backToKw cpos (keywordEach [] X.env)).all (fun x => x.1.isSome)
      && decide ((e :: es).length + ([] : List Keyword).length + (if ([] : List Keyword).isEmpty then 0 else 1) < 30)) = true := by rfl)
    (hline : (apos.endLine == cpos.line) = true := by rfl) (hs : starEach (e :: es) X.env = (false, eval e X.env) :: starEach es X.env := by rfl) (hplain : (backTo cpos (starEach es X.env)).any (·.1) = false := by rfl) :
    DE X (.Call (.Attribute o name apos) (e :: es) [] cpos) (dM g to t) :=
  ⟨(pe_bm PySem.F.plainAttrs_list slot hty hm ho.p ha.p hbase hfew hline hs hplain).of fun s H Q ⟨r, m, R, hs, M, h, q⟩ => ⟨r, m, _, hs, M, h, fun x m1 v H1 h1 s1 M1 q1 =>
    ⟨isLst_ty h1.1 M1 q1, r, m1, _, hs.keep s1.keep, M1, h1.2, fun ds m2 vs H2 h2 s2 M2 q2 => hg H2 m2 x ds v vs R Q M2 (q1.keep s2.keep) q2 h2 (q.step (s1.trans s2))⟩⟩⟩
theorem de_m0 {id : String} {name : Str} {r : V → List V → Hp → VK → Prop} {g : D → List D → Mu → DK → Prop} (slot : Slot "list" name id) (hty : typeOf (.builtin id) = pure (.type "method_descriptor")) (hm : MtR X id r) (hg : LiftM X.K r g) (ho : DE X o to)
    (hbase : attributeBase o name X.env (eval o X.env) = eval o X.env := by rfl) (hline : (apos.endLine == cpos.line) = true := by rfl) : DE X (.Call (.Attribute o name apos) [] [] cpos) (dM g to aNil) :=
  ⟨(pe_bm0 PySem.F.plainAttrs_list slot hty hm ho.p hbase hline).of fun s H Q ⟨r, m, R, hs, M, h, q⟩ => ⟨r, m, _, hs, M, h, fun x m1 v H1 h1 s1 M1 q1 =>
    ⟨isLst_ty h1.1 M1 q1, hg H1 m1 x [] v [] R Q M1 q1 Reps.nil h1.2 (q.step s1)⟩⟩⟩
theorem Mut.lst {xs : List V} : Mut (some (.lst xs)) := trivial
def gAppend : D → List D → Mu → DK → Prop := fun x ds m R => match x, ds with
  | .ref a, [d] => match m a with
    | some (.lst xs) => xs.length < sizeLine ∧ R .non (mput m a (.lst (xs ++ [d])))
    | _ => False
  | _, _ => False
theorem de_append (ho : DE X o to) (ha : DA X [e] t) (hbase : attributeBase o "append" X.env (eval o X.env) = eval o X.env := by rfl)
    (hfew : ((backTo cpos (starEach [e] X.env)).all (fun x => !x.1) && (backToKw cpos (keywordEach [] X.env)).all (fun x => x.1.isSome)
      && decide ([e].length + ([] : List Keyword).length + (if ([] : List Keyword).isEmpty then 0 else 1) < 30)) = true := by rfl)
    (hline : (apos.endLine == cpos.line) = true := by rfl) (hs : starEach [e] X.env = (false, eval e X.env) :: starEach [] X.env := by rfl) (hplain : (backTo cpos (starEach [] X.env)).any (·.1) = false := by rfl) :
    DE X (.Call (.Attribute o "append" apos) [e] [] cpos) (dM gAppend to t) :=
  de_m PySem.F.slot_list_append PySem.F.type_list_append mt_append (fun H m d ds v vs R Q M rd rds h q => by
    unfold gAppend at h
    split at h
    · rename_i a c
      split at h
      · rename_i xs ex
        obtain rfl := Rep.ref_.mp rd
        obtain ⟨y, rfl, ry⟩ := rds.one_
        obtain ⟨zs, hz, rz⟩ := M _ _ ex
        exact ⟨a, zs, y, rfl, rfl, hz, by rw [← rz.length]; exact h.1, q _ _ _ _ h.2 (Step.wr hz Mut.lst ex) (M.wr hz Mut.lst ⟨_, upd_same, (rz.append (Reps.one ry)).keep (Keep.wr hz Mut.lst)⟩) (Rep.non_.mpr rfl)⟩
      · exact h.elim
    · exact h.elim) ho ha hbase hfew hline hs hplain
/-- xs.extend(a new list) -/
def dExtN (to : DTE) (t : DTA) : DTE := fun r m R => to r m fun x m1 => isLst m1 x ∧ t r m1 fun zs m2 => match x with
  | .ref a => match m2 a with
    | some (.lst xs) => xs.length + zs.length ≤ sizeLine ∧ R .non (mput m2 a (.lst (xs ++ zs)))
    | _ => False
  | _ => False
theorem de_extN (ho : DE X o to) (ha : DN X e t) (hbase : attributeBase o "extend" X.env (eval o X.env) = eval o X.env := by rfl)
    (hfew : ((backTo cpos (starEach [e] X.env)).all (fun x => !x.1) && (backToKw cpos (keywordEach [] X.env)).all (fun x => x.1.isSome)
      && decide ([e].length + ([] : List Keyword).length + (if ([] : List Keyword).isEmpty then 0 else 1) < 30)) = true := by rfl)
    (hline : (apos.endLine == cpos.line) = true := by rfl) (hs : starEach [e] X.env = (false, eval e X.env) :: starEach [] X.env := by rfl) (hplain : (backTo cpos (starEach [] X.env)).any (·.1) = false := by rfl) :
    DE X (.Call (.Attribute o "extend" apos) [e] [] cpos) (dExtN to t) :=
  ⟨(pe_bm PySem.F.plainAttrs_list PySem.F.slot_list_extend PySem.F.type_list_extend mt_extend ho.p (pa_cons ha.p pa_nil hs) hbase hfew hline hs hplain).of fun s H Q ⟨r, m, R, hs, M, h, q⟩ => ⟨r, m, _, hs, M, h, fun x m1 v H1 h1 s1 M1 q1 =>
    ⟨isLst_ty h1.1 M1 q1, r, m1, _, hs.keep s1.keep, M1, h1.2, fun zs m2 b ys H2 h2 s2 M2 hb hmb hHb ry => by
      split at h2
      · rename_i a
        split at h2
        · rename_i xs ex
          obtain rfl := Rep.ref_.mp q1
          obtain ⟨ws, hw, rw'⟩ := M2 _ _ ex
          exact ⟨a, b, ws, ys, rfl, rfl, hw, hb, by rw [← rw'.length, ← ry.length]; exact h2.1, q _ _ _ _ h2.2 ((s1.trans s2).trans (Step.wr hw Mut.lst ex)) (M2.wr hw Mut.lst ⟨_, upd_same, (rw'.append ry).keep (Keep.wr hw Mut.lst)⟩) (Rep.non_.mpr rfl)⟩
        · exact h2.elim
      · exact h2.elim⟩⟩⟩
def gPop : D → List D → Mu → DK → Prop := fun x ds m R => match x, ds with
  | .ref a, [] => match m a with
    | some (.lst xs) => match xs[xs.length - 1]? with
      | some y => R y (mput m a (.lst xs.dropLast))
      | none => False
    | _ => False
  | _, _ => False
theorem Reps.dropLast {K : PySem.W.Frag} {H : Hp} {ds : List D} {vs : List V} (h : Reps K H ds vs) : Reps K H ds.dropLast vs.dropLast := by
  rw [List.dropLast_eq_take, List.dropLast_eq_take, h.length]
  exact h.take _
theorem de_pop (ho : DE X o to) (hbase : attributeBase o "pop" X.env (eval o X.env) = eval o X.env := by rfl) (hline : (apos.endLine == cpos.line) = true := by rfl) : DE X (.Call (.Attribute o "pop" apos) [] [] cpos) (dM gPop to aNil) :=
  de_m0 PySem.F.slot_list_pop PySem.F.type_list_pop mt_pop (fun H m d ds v vs R Q M rd rds h q => by
    unfold gPop at h
    split at h
    · rename_i a
      split at h
      · rename_i xs ex
        split at h
        · rename_i y ey
          obtain rfl := Rep.ref_.mp rd
          unfold Reps at rds
          subst rds
          obtain ⟨zs, hz, rz⟩ := M _ _ ex
          obtain ⟨u, eu, ru⟩ := rz.get ey
          exact ⟨a, zs, u, rfl, rfl, hz, by rw [← rz.length]; exact eu, q _ _ _ _ h (Step.wr hz Mut.lst ex) (M.wr hz Mut.lst ⟨_, upd_same, rz.dropLast.keep (Keep.wr hz Mut.lst)⟩) (ru.keep (Keep.wr hz Mut.lst))⟩
        · exact h.elim
      · exact h.elim
    · exact h.elim) ho hbase hline

/-! ### xs[i] = v -/
def gSetIx (to ti : DTE) : DTG := fun d r m R => to r m fun x m1 => ti r m1 fun y m2 => match x, y with
  | .ref a, .int k => match m2 a with
    | some (.lst xs) => match ixN xs.length k with
      | some j => R r (mput m2 a (.lst (xs.set j d)))
      | none => False
    | _ => False
  | _, _ => False
theorem dg_sub {o i : Expr} {to ti : DTE} (ho : DE X o to) (hi : DE X i ti)
    (ha : ∀ v, assign (.Subscript o i pos) X.env v = (do
      let ov ← holding [v] (eval o X.env)
      let iv ← holding [v, ov] (eval i X.env)
      standAt pos
      holding [v, ov, iv] (setItem ov iv v)
      release [v, ov, iv] []) := by intro _; rfl) : DG X (.Subscript o i pos) (gSetIx to ti) :=
  ⟨(pg_sub ho.p hi.p set_list ha).of fun v s H Q ⟨d, r, m, R, rd, hs, M, h, q⟩ => ⟨r, m, _, hs, M, h, fun x m1 u H1 h1 s1 M1 q1 => ⟨r, m1, _, hs.keep s1.keep, M1, h1, fun y m2 w H2 h2 s2 M2 q2 => by
    split at h2
    · rename_i a k
      split at h2
      · rename_i xs ex
        split at h2
        · rename_i j ej
          obtain rfl := Rep.ref_.mp q1
          obtain rfl := Rep.int_.mp q2
          obtain ⟨zs, hz, rz⟩ := M2 _ _ ex
          refine ⟨a, zs, k, j, rfl, rfl, hz, by rw [← rz.length]; exact ej, ?_⟩
          have st := s1.trans (s2.trans (Step.wr (K := X.K) (o := .lst (zs.set j v)) (w := .lst (xs.set j d)) hz Mut.lst ex))
          exact q _ _ _ _ h2 st (M2.wr hz Mut.lst ⟨_, upd_same, (rz.set (rd.keep (s1.trans s2).keep) j).keep (Keep.wr hz Mut.lst)⟩) (hs.keep st.keep)
        · exact h2.elim
      · exact h2.elim
    · exact h2.elim⟩⟩⟩
end
end DL

namespace DL
open PySem PySem.Spec PyProof.Rows L2

/-! ### targets of a comprehension: they store their own slots alone -/
def DoneW (K : PySem.W.Frag) (vs : List Nat) (s0 : L2.St) (H : Hp) (m : Mu) (R : DSt → Mu → Prop) (Q : L2.St → Hp → Prop) : Prop := ∀ r m' s H', R r m' → Step K H m H' m' → RepM K H' m' → RepS K H' r s → wipe s vs = wipe s0 vs → Q s H'
def lGw (K : PySem.W.Frag) (vs : List Nat) (g : DTG) : TG := fun v s H Q => ∃ d r m R, Rep K H d v ∧ RepS K H r s ∧ RepM K H m ∧ g d r m R ∧ DoneW K vs s H m R Q
def lGws (K : PySem.W.Frag) (vs : List Nat) (g : DTGs) : TGs := fun ws s H Q => ∃ ds r m R, Reps K H ds ws ∧ RepS K H r s ∧ RepM K H m ∧ g ds r m R ∧ DoneW K vs s H m R Q
structure DGw (X : Cx) (vs : List Nat) (e : Expr) (t : DTG) : Prop where
  p : PG X e (lGw X.K vs t)
structure DGws (X : Cx) (vs : List Nat) (e : List Expr) (t : DTGs) : Prop where
  p : PGs X e (lGws X.K vs t)
theorem wipe_get {s : L2.St} {j : Nat} : ∀ (vs : List Nat), (wipe s vs)[j]? = if j ∈ vs ∧ j < s.length then some none else s[j]?
  | [] => by simp [wipe]
  | v :: vs => by
    unfold wipe
    rw [List.getElem?_set, wipe_length, wipe_get vs]
    by_cases h : v = j
    · subst h
      by_cases hl : v < s.length
      · simp [hl]
      · simp [hl]
    · have h' : ¬ j = v := fun e => h e.symm
      simp [h, h']
theorem wipe_set {s : L2.St} {i : Nat} {o : Option V} {vs : List Nat} (hi : i ∈ vs) : wipe (s.set i o) vs = wipe s vs := by
  apply List.ext_getElem?
  intro j
  rw [wipe_get, wipe_get, List.length_set, List.getElem?_set]
  by_cases h : j ∈ vs ∧ j < s.length
  · rw [if_pos h, if_pos h]
  · rw [if_neg h, if_neg h]
    by_cases e : i = j
    · subst e
      have : ¬ i < s.length := fun z => h ⟨hi, z⟩
      rw [if_pos rfl, if_neg this, List.getElem?_eq_none (by omega)]
    · rw [if_neg e]
section
variable {X : Cx} {pos : Pos} {vs : List Nat}
theorem dgw_name {i : Nat} {x : Str} (hN : X.N.Nodup) (hi : X.N[i]? = some x) (hx : Loc X.env.scope x) (hv : i ∈ vs := by decide) (hf : X.fn x = true ∨ X.env.scope.names.lookup x = some .local := by first | exact .inl rfl | exact .inr rfl | assumption) : DGw X vs (.Name x pos) (gName' i) :=
  ⟨(pg_name hN hi hx hf).of fun v s H Q ⟨d, r, m, R, rd, hs, M, h, q⟩ => q _ _ _ _ h (Step.refl _ H m) M (hs.set rd i) (wipe_set hv)⟩
theorem dgws_nil : DGws X vs [] gNil' := ⟨pgs_nil.of fun ws s H Q ⟨ds, r, m, R, rd, hs, M, h, q⟩ => by
  unfold gNil' at h
  split at h
  · unfold Reps at rd
    exact ⟨rd, q _ _ _ _ h (Step.refl _ H m) M hs rfl⟩
  · exact h.elim⟩
theorem dgws_cons {e : Expr} {es : List Expr} {t : DTG} {u : DTGs} (h1 : DGw X vs e t) (h2 : DGws X vs es u)
    (hs : (assignEach (e :: es) X.env).map (·.2) = assign e X.env :: (assignEach es X.env).map (·.2) := by rfl) : DGws X vs (e :: es) (gCons' t u) :=
  ⟨(pgs_cons h1.p h2.p hs).of fun ws s H Q ⟨ds, r, m, R, rd, hs, M, h, q⟩ => by
    unfold gCons' at h
    split at h
    · unfold Reps at rd
      obtain ⟨v, vr, e, r1, r2⟩ := rd
      exact ⟨v, vr, e, _, r, m, _, r1, hs, M, h, fun r' m' s' H' h' st' M' q' w' => ⟨_, r', m', R, r2.keep st'.keep, q', M', h', fun r2 m2 s2 H2 hh st2 M2 q2 w2 => q _ _ _ _ hh (st'.trans st2) M2 q2 (w2.trans w')⟩⟩
    · exact h.elim⟩
theorem dgw_tup {es : List Expr} {k : Nat} {t : DTGs} {n : Nat} (hc : X.calm = true) (h : DGws X vs es t)
    (hn : (assignEach es X.env).length = n := by rfl) (hst : (assignEach es X.env).findIdx? (·.1) = none := by rfl) : DGw X vs (.Tuple es k pos) (gTup' n t) :=
  ⟨((pg_tup hc h.p hn hst).or (pg_lst hc h.p hn hst)).of fun v s H Q ⟨d, r, m, R, rd, hs, M, h, q⟩ => by
    unfold gTup' at h
    split at h
    · obtain ⟨p, xs, e, hp, rx⟩ := Rep.tup_.mp rd
      exact .inl ⟨p, xs, e, hp, by rw [← rx.length]; exact h.1, _, r, m, R, rx, hs, M, h.2, q⟩
    · rename_i a
      split at h
      · rename_i ds ed
        obtain rfl := Rep.ref_.mp rd
        obtain ⟨xs, hx, rx⟩ := M _ _ ed
        exact .inr ⟨a, xs, rfl, .inl (.inl hx), by rw [← rx.length]; exact h.1, _, r, m, R, rx, hs, M, h.2, q⟩
      · exact h.elim
    · exact h.elim⟩
/-- the tests of a comprehension -/
structure DTs (X : Cx) (ifs : List Expr) (t : DTT) : Prop where
  p : PTs X ifs (lT X.K t)
theorem _root_.L2.PTs.of {e : List Expr} {t t' : TT} (h : PTs X e t') (i : ∀ s H Q, t s H Q → t' s H Q) : PTs X e t := ⟨fun pins s σ H Q I q => h.run pins s σ H Q I (i _ _ _ q)⟩
def tYes' : DTT := fun _ m R => R true m
theorem dts_nil : DTs X [] tYes' := ⟨pts_nil.of fun s H Q ⟨r, m, R, hs, M, h, q⟩ => q.here h M⟩
theorem dts_one {c : Expr} {t : DTT} (h : DT X c t) : DTs X [c] t := ⟨pts_one h.p⟩

/-! ### list comprehensions -/
def dwipe (r : DSt) : List Nat → DSt
  | [] => r
  | v :: vs => (dwipe r vs).set v none
theorem RepS.wipe {K : PySem.W.Frag} {H : Hp} {r : DSt} {s : L2.St} (h : RepS K H r s) : ∀ vs : List Nat, RepS K H (dwipe r vs) (L2.wipe s vs)
  | [] => h
  | v :: vs => by
    have ih := RepS.wipe h vs
    unfold dwipe L2.wipe
    refine ⟨by simp [ih.1], fun i d e => ?_⟩
    by_cases hv : v = i
    · subst hv
      by_cases hl : v < (dwipe r vs).length
      · rw [List.getElem?_set_self hl] at e; cases e
      · rw [List.getElem?_eq_none (by simpa using hl)] at e; cases e
    · rw [List.getElem?_set_ne hv] at e
      obtain ⟨w, e', q⟩ := ih.2 i d e
      exact ⟨w, by rw [List.getElem?_set_ne hv]; exact e', q⟩
def lcL (G : Mu → Prop) (g : DTG) (tt : DTT) (te : DTE) (r0 : DSt) : List D → List D → Mu → (List D → Mu → Prop) → Prop
  | [], acc, m, R => G m ∧ R acc m
  | d :: ds, acc, m, R => G m ∧ g d r0 m fun r2 m2 => tt r2 m2 fun b m3 => if b = true then te r2 m3 fun y m4 => acc.length < sizeLine ∧ lcL G g tt te r0 ds (acc ++ [y]) m4 R else lcL G g tt te r0 ds acc m3 R
def nLc (wi : DTI) (g : DTG) (tt : DTT) (te : DTE) (vs : List Nat) : DTA := fun r m R => wi r m fun it m1 => lcL it.guard g tt te (dwipe r vs) it.items [] m1 R
theorem Step.wrU {K : PySem.W.Frag} {H H1 : Hp} {m m1 : Mu} {p : Addr} {o u : HO} (s : Step K H m H1 m1) (h0 : H p = none) (hp : H1 p = some u) (hu : Mut (some u)) : Step K H m (upd H1 p o) m1 :=
  ⟨s.keep.trans (Keep.wr hp hu), fun b z h n => (by rw [upd_ne (fun e => by rw [e, h0] at h; cases h)]; exact s.fr b z h n), s.dom, fun b h => s.th b (upd_none h)⟩
theorem RepM.wrU {K : PySem.W.Frag} {H : Hp} {m : Mu} {p : Addr} {o u : HO} (M : RepM K H m) (hm : m p = none) (hp : H p = some u) (hu : Mut (some u)) : RepM K (upd H p o) m := fun a z e =>
  (M a z e).wr hp hu (fun q => by rw [q, hm] at e; cases e)
theorem Step.noM {K : PySem.W.Frag} {H H1 : Hp} {m m1 : Mu} {p : Addr} {u : HO} (s : Step K H m H1 m1) (hm : m p = none) (hp : H p = some u) : m1 p = none := by
  cases e : m1 p with
  | none => rfl
  | some o => have := s.dom p o e hm; rw [hp] at this; cases this
theorem lc_lift {K : PySem.W.Frag} {wi : DTI} {g : DTG} {tt : DTT} {te : DTE} {vs : List Nat} : ∀ s H Q, lL K (nLc wi g tt te vs) s H Q → tLc (lI K wi) (lGw K vs g) (lT K tt) (lE K te) vs s H Q := by
  rintro s H Q ⟨r, m, R, hs, M, h, q⟩
  refine ⟨r, m, _, hs, M, h, fun it m1 H1 J inv h1 s1 M1 L P hP => ?_⟩
  have hmP : m1 P = none := M1.free hP
  refine ⟨fun i n H => n = it.items.length - i ∧ i ≤ it.items.length ∧ ∃ acc xs m, Step K H1 m1 H m ∧ RepM K H m ∧ H P = some (.lst xs) ∧ m P = none ∧ Reps K H acc xs ∧ lcL it.guard g tt te (dwipe r vs) (it.items.drop i) acc m R,
    ⟨it.items.length, rfl, Nat.zero_le _, [], [], m1, Step.new hP, M1.new hP, upd_same, hmP, Reps.nil, h1⟩, ?_⟩
  rintro i n H2 ⟨rfl, hi, acc, xs, m2, st, M2, hx, hm, rx, h2⟩
  have hv : inv H2 m2 := L.step _ _ _ _ st L.at0
  by_cases hlt : i < it.items.length
  · have ed : it.items.drop i = it.items[i] :: it.items.drop (i + 1) := List.drop_eq_getElem_cons hlt
    rw [ed] at h2
    obtain ⟨hG, h2⟩ := h2
    refine .inr ⟨L.go i H2 m2 M2 hv hG hlt, fun H => ∃ acc xs m, Step K H1 m1 H m ∧ RepM K H m ∧ H P = some (.lst xs) ∧ m P = none ∧ Reps K H acc xs ∧ lcL it.guard g tt te (dwipe r vs) (it.items.drop (i + 1)) acc m R,
      fun H' z => ⟨it.items.length - (i + 1), by omega, rfl, hlt, z⟩, fun x H' y => ?_⟩
    obtain ⟨d, e, st', M', rd⟩ := L.yld i H2 m2 x H' M2 hv hG hlt y
    have e' : it.items[i] = d := by rw [List.getElem?_eq_getElem hlt] at e; exact Option.some.inj e
    rw [e'] at h2
    have stA := st.trans st'
    refine ⟨d, dwipe r vs, m2, _, rd, ((hs.keep s1.keep).keep stA.keep).wipe vs, M', h2, fun r3 m3 s3 H3 h3 st3 M3 q3 w3 => ?_⟩
    have stB := stA.trans st3
    have hxB := st3.fr P _ (st'.fr P _ hx hm) hm
    have hmB : m3 P = none := st3.noM hm (st'.fr P _ hx hm)
    refine ⟨w3.trans ?_, r3, m3, _, q3, M3, h3, fun b m4 H4 h4 st4 M4 => ?_⟩
    · apply List.ext_getElem?
      intro j
      rw [wipe_get, wipe_get, wipe_length]
      by_cases hj : j ∈ vs ∧ j < s.length
      · rw [if_pos hj, if_pos hj]
      · rw [if_neg hj, if_neg hj]
    · have hx4 := st4.fr P _ hxB hmB
      have hm4 : m4 P = none := st4.noM hmB hxB
      have stC := stB.trans st4
      cases b with
      | false => exact ⟨acc, xs, m4, stC, M4, hx4, hm4, ((rx.keep st'.keep).keep st3.keep).keep st4.keep, h4⟩
      | true =>
        refine ⟨r3, m4, _, q3.keep st4.keep, M4, h4, fun y m5 v H5 h5 st5 M5 q5 => ?_⟩
        have hx5 := st5.fr P _ hx4 hm4
        have hm5 : m5 P = none := st5.noM hm4 hx4
        have r5 : Reps K H5 acc xs := (((rx.keep st'.keep).keep st3.keep).keep st4.keep).keep st5.keep
        exact ⟨xs, hx5, by rw [← r5.length]; exact h5.1, acc ++ [y], xs ++ [v], m5, (stC.trans st5).wrU hP hx5 Mut.lst, M5.wrU hm5 hx5 Mut.lst, upd_same, hm5, (r5.append (Reps.one q5)).keep (Keep.wr hx5 Mut.lst), h5.2⟩
  · have e : i = it.items.length := by omega
    subst e
    rw [List.drop_length] at h2
    exact .inl ⟨L.stop H2 m2 M2 hv h2.1, q _ _ _ _ _ h2.2 (s1.trans st) M2 hx hm (s1.th _ hP) rx⟩
theorem dn_lc {elt tg iter : Expr} {ifs : List Expr} {scope : Scope} {own : List (Str × Nat)} {wi : DTI} {g : DTG} {tt : DTT} {te : DTE} (hc : X.calm = true) (hN : X.N.Nodup) (hi : DI X tg iter wi) (ok : BlkOk X.N X.env.scope scope own)
    (hg : ∀ (s : Shared) (H : Hp) (C : Addr) (cl : List (Str × Addr)) (fp : List Addr), DGw (X.blk s H scope (compEnvC scope cl C X.env) fp) (own.map (·.2)) tg g) (ht : ∀ (s : Shared) (H : Hp) (C : Addr) (cl : List (Str × Addr)) (fp : List Addr), DTs (X.blk s H scope (compEnvC scope cl C X.env) fp) ifs tt)
    (he : ∀ (s : Shared) (H : Hp) (C : Addr) (cl : List (Str × Addr)) (fp : List Addr), DE (X.blk s H scope (compEnvC scope cl C X.env) fp) elt te) (hs : ∀ x, foldedSetIterable iter X.env x = pure x := by intro _; rfl) :
    DN X (.ListComp elt [⟨tg, iter, ifs, 0⟩] scope pos) (nLc wi g tt te (own.map (·.2))) :=
  ⟨(pe_lc hc hN hi.p ok (fun s H C cl fp => (hg s H C cl fp).p) (fun s H C cl fp => (ht s H C cl fp).p) (fun s H C cl fp => (he s H C cl fp).p) hs).of lc_lift⟩
/-- y = [..]: the list at a new address -/
def sSetN (i : Nat) (t : DTA) : DTS := fun E r m => t r m fun xs m1 => ∀ a, m1 a = none → E.nx (r.set i (some (.ref a))) (mput m1 a (.lst xs))
theorem ds_setLc {i : Nat} {y : Str} {py : Pos} {elt tg iter : Expr} {ifs : List Expr} {scope : Scope} {own : List (Str × Nat)} {spos : Pos} {wi : DTI} {g : DTG} {tt : DTT} {te : DTE} (hc : X.calm = true) (hN : X.N.Nodup) (hy : X.N[i]? = some y) (hyl : X.env.scope.names.lookup y = some .local)
    (hsw : swapsWith (.ListComp elt [⟨tg, iter, ifs, 0⟩] scope pos) (some (.Name y py)) spos.line X.env = pure true) (hi : DI X tg iter wi) (ok : BlkOk X.N X.env.scope scope own)
    (hg : ∀ (s : Shared) (H : Hp) (C : Addr) (cl : List (Str × Addr)) (fp : List Addr), DGw (X.blk s H scope (compEnvC scope cl C X.env) fp) (own.map (·.2)) tg g) (ht : ∀ (s : Shared) (H : Hp) (C : Addr) (cl : List (Str × Addr)) (fp : List Addr), DTs (X.blk s H scope (compEnvC scope cl C X.env) fp) ifs tt)
    (he : ∀ (s : Shared) (H : Hp) (C : Addr) (cl : List (Str × Addr)) (fp : List Addr), DE (X.blk s H scope (compEnvC scope cl C X.env) fp) elt te) (hs : ∀ x, foldedSetIterable iter X.env x = pure x := by intro _; rfl) :
    DS X (.Assign [.Name y py] (.ListComp elt [⟨tg, iter, ifs, 0⟩] scope pos) spos) (sSetN i (nLc wi g tt te (own.map (·.2)))) :=
  ⟨(ps_setLc hc hN hy hyl hsw hi.p ok (fun s H C cl fp => (hg s H C cl fp).p) (fun s H C cl fp => (ht s H C cl fp).p) (fun s H C cl fp => (he s H C cl fp).p) hs).of fun E' s H ⟨r, m, E, hs, M, h, q⟩ =>
    lc_lift s H _ ⟨r, m, _, hs, M, h, fun ds m1 a xs H1 h1 s1 M1 ha hm hH rx => q.nx _ _ _ _ (h1 a hm) (s1.put hH) (M1.put ⟨xs, ha, rx⟩) ((hs.keep s1.keep).set (Rep.ref_.mpr rfl) i)⟩⟩
theorem ds_setN {i : Nat} {x : Str} {e : Expr} {t : DTA} {pos' : Pos} (hN : X.N.Nodup) (hi : X.N[i]? = some x) (hx : Loc X.env.scope x) (he : DN X e t) (hs : swapsWith e (some (.Name x pos')) pos.line X.env = pure false := by rfl) (hf : X.fn x = true ∨ X.env.scope.names.lookup x = some .local := by first | exact .inl rfl | exact .inr rfl | assumption) :
    DS X (.Assign [.Name x pos'] e pos) (sSetN i t) :=
  ⟨(ps_set hN hi hx he.p hs hf).of fun E' s H ⟨r, m, E, hs, M, h, q⟩ => ⟨r, m, _, hs, M, h, fun ds m1 a xs H1 h1 s1 M1 ha hm hH rx => q.nx _ _ _ _ (h1 a hm) (s1.put hH) (M1.put ⟨xs, ha, rx⟩) ((hs.keep s1.keep).set (Rep.ref_.mpr rfl) i)⟩⟩
end
end DL

namespace DL
open PySem PySem.Spec PyProof.Rows L2

/-! ### data as the model's plain data -/
def pyAll (f : D → Option PyData) : List D → Option (List PyData)
  | [] => some []
  | d :: ds => match f d with
    | some p => match pyAll f ds with
      | some ps => some (p :: ps)
      | none => none
    | none => none
def py (m : Mu) : Nat → D → Option PyData
  | 0, _ => none
  | n + 1, d => match d with
    | .non => some .none
    | .bl b => some (.bool b)
    | .int i => some (.int i)
    | .str x => if PyData.strOk x = true then some (.str x) else none
    | .tup ds => match pyAll (py m n) ds with
      | some ps => some (.tuple ps)
      | none => none
    | .rl ds => match pyAll (py m n) ds with
      | some ps => some (.list ps)
      | none => none
    | .ref a => match m a with
      | some (.lst ds) => match pyAll (py m n) ds with
        | some ps => some (.list ps)
        | none => none
      | _ => none
    | .ty _ => none
theorem pyAll_dp {K : PySem.W.Frag} {H : Hp} {f : D → Option PyData} (hf : ∀ d p v, f d = some p → Rep K H d v → Dp K H v p) : ∀ {ds : List D} {ps : List PyData} {vs : List V}, pyAll f ds = some ps → Reps K H ds vs → DpAll K H vs ps
  | [], ps, vs, h, r => by
    unfold pyAll at h; cases h
    unfold Reps at r; subst r
    exact .nil
  | d :: ds, ps, vs, h, r => by
    unfold pyAll at h
    split at h
    · rename_i p ep
      split at h
      · rename_i qs eq
        cases h
        unfold Reps at r
        obtain ⟨v, w, e, r1, r2⟩ := r
        subst e
        exact .cons (hf d p v ep r1) (pyAll_dp hf eq r2)
      · cases h
    · cases h
theorem py_dp {K : PySem.W.Frag} {H : Hp} {m : Mu} (M : RepM K H m) : ∀ (n : Nat) (d : D) (p : PyData) (v : V), py m n d = some p → Rep K H d v → Dp K H v p
  | 0, d, p, v, h, r => by unfold py at h; cases h
  | n + 1, d, p, v, h, r => by
    have ih := py_dp M n
    unfold py at h
    split at h
    · cases h; obtain rfl := Rep.non_.mp r; exact .non
    · cases h; obtain rfl := Rep.bl_.mp r; exact .bl _
    · cases h; obtain rfl := Rep.int_.mp r; exact .int _
    · split at h
      · cases h; obtain rfl := Rep.str_.mp r; exact .str _
      · cases h
    · split at h
      · rename_i ps e
        cases h
        obtain ⟨a, xs, rfl, hx, rx⟩ := Rep.tup_.mp r
        exact .tup hx (pyAll_dp ih e rx)
      · cases h
    · split at h
      · rename_i ps e
        cases h
        unfold Rep at r
        obtain ⟨a, xs, rfl, hx, rx⟩ := r
        exact .lst hx.sq (pyAll_dp ih e rx)
      · cases h
    · split at h
      · rename_i e0
        split at h
        · rename_i ps e
          cases h
          obtain rfl := Rep.ref_.mp r
          obtain ⟨xs, hx, rx⟩ := M _ _ e0
          exact .lst (SqL.of hx) (pyAll_dp ih e rx)
        · cases h
      · cases h
    · cases h
theorem pyAll_shape {f : D → Option PyData} {n : Nat} (hf : ∀ d p, f d = some p → p.canLay0 = true ∧ p.depth ≤ n) : ∀ {ds : List D} {ps : List PyData}, pyAll f ds = some ps → PyData.canLayAll0 ps = true ∧ PyData.depthAll ps ≤ n
  | [], ps, h => by unfold pyAll at h; cases h; simp [PyData.canLayAll0, PyData.depthAll]
  | d :: ds, ps, h => by
    unfold pyAll at h
    split at h
    · rename_i p ep
      split at h
      · rename_i qs eq
        cases h
        obtain ⟨a, b⟩ := hf d p ep
        obtain ⟨a2, b2⟩ := pyAll_shape hf eq
        simp [PyData.canLayAll0, PyData.depthAll, a, a2]
        omega
      · cases h
    · cases h
theorem py_shape {m : Mu} : ∀ (n : Nat) (d : D) (p : PyData), py m n d = some p → p.canLay0 = true ∧ p.depth ≤ n
  | 0, d, p, h => by unfold py at h; cases h
  | n + 1, d, p, h => by
    have ih := py_shape (m := m) n
    unfold py at h
    split at h
    · cases h; simp [PyData.canLay0, PyData.depth]
    · cases h; simp [PyData.canLay0, PyData.depth]
    · cases h; simp [PyData.canLay0, PyData.depth]
    · split at h
      · rename_i ok
        cases h; simp [PyData.canLay0, PyData.depth, ok]
      · cases h
    · split at h
      · rename_i ps e
        cases h
        obtain ⟨a, b⟩ := pyAll_shape ih e
        simp [PyData.canLay0, PyData.depth, a]
        omega
      · cases h
    · split at h
      · rename_i ps e
        cases h
        obtain ⟨a, b⟩ := pyAll_shape ih e
        simp [PyData.canLay0, PyData.depth, a]
        omega
      · cases h
    · split at h
      · split at h
        · rename_i ps e
          cases h
          obtain ⟨a, b⟩ := pyAll_shape ih e
          simp [PyData.canLay0, PyData.depth, a]
          omega
        · cases h
      · cases h
    · cases h
theorem py_shaped {m : Mu} {n : Nat} {d : D} {p : PyData} (h : py m n d = some p) (hn : n ≤ 64) : SeqAt.shaped p = true := by
  obtain ⟨a, b⟩ := py_shape n d p h
  unfold SeqAt.shaped
  rw [a, decide_eq_true (by omega)]
  rfl
/-- the depth to which data is looked at -/
abbrev deep : Nat := 12
/-! ### == and != -/
def gEq : G2 := fun x y m R => match x, y with
  | .str i, .str j => R (.bl (decide (i = j))) m
  | x, y => match py m deep x with
    | some p => match py m deep y with
      | some q => R (.bl (PyData.eqv p q)) m
      | none => False
    | none => False
def gNe : G2 := fun x y m R => match x, y with
  | .str i, .str j => R (.bl (!decide (i = j))) m
  | x, y => match py m deep x with
    | some p => match py m deep y with
      | some q => R (.bl (!PyData.eqv p q)) m
      | none => False
    | none => False
theorem lift_eq {K : PySem.W.Frag} : Lift2 K (fun x y H Q => rEq x y H Q ∨ rEqD K x y H Q) gEq := fun H m x y v w R Q M r1 r2 h q => by
  unfold gEq at h
  split at h
  · rename_i i j
    obtain rfl := Rep.str_.mp r1
    obtain rfl := Rep.str_.mp r2
    refine .inl ⟨rfl, q.here h M (Rep.bl_.mpr ?_)⟩
    simp
  · split at h
    · rename_i p ep
      split at h
      · rename_i z ez
        exact .inr ⟨p, z, py_dp M _ _ _ _ ep r1, py_dp M _ _ _ _ ez r2, py_shaped ep (by decide), py_shaped ez (by decide), q.here h M (Rep.bl_.mpr rfl)⟩
      · exact h.elim
    · exact h.elim
theorem lift_ne {K : PySem.W.Frag} : Lift2 K (fun x y H Q => rNe x y H Q ∨ rNeD K x y H Q) gNe := fun H m x y v w R Q M r1 r2 h q => by
  unfold gNe at h
  split at h
  · rename_i i j
    obtain rfl := Rep.str_.mp r1
    obtain rfl := Rep.str_.mp r2
    refine .inl ⟨rfl, q.here h M (Rep.bl_.mpr ?_)⟩
    simp
  · split at h
    · rename_i p ep
      split at h
      · rename_i z ez
        exact .inr ⟨p, z, py_dp M _ _ _ _ ep r1, py_dp M _ _ _ _ ez r2, py_shaped ep (by decide), py_shaped ez (by decide), q.here h M (Rep.bl_.mpr rfl)⟩
      · exact h.elim
    · exact h.elim
section
variable {X : Cx} {a b e o : Expr} {ta tb te to : DTE} {t u : DTA} {pos p : Pos} {k : Nat}
abbrev dEq := d2 gEq
abbrev dNe := d2 gNe
theorem de_eq (hr : Room k X.A) (ha : DE X a ta) (hb : DE X b tb) : DE X (.Compare a [.Eq] [b] pos) (dEq ta tb) := de_cmp (op_eq.or (op_eqD hr.units)) lift_eq ha hb (nomark _)
theorem de_ne (hr : Room k X.A) (ha : DE X a ta) (hb : DE X b tb) : DE X (.Compare a [.NotEq] [b] pos) (dNe ta tb) := de_cmp (op_ne.or (op_neD hr.units)) lift_ne ha hb (nomark _)
theorem dt_eq (hr : Room k X.A) (ha : DE X a ta) (hb : DE X b tb) : DT X (.Compare a [.Eq] [b] pos) (tBool (dEq ta tb)) := dt_cmp (op_eq.or (op_eqD hr.units)) lift_eq ha hb (nomark _)
theorem dt_ne (hr : Room k X.A) (ha : DE X a ta) (hb : DE X b tb) : DT X (.Compare a [.NotEq] [b] pos) (tBool (dNe ta tb)) := dt_cmp (op_ne.or (op_neD hr.units)) lift_ne ha hb (nomark _)

/-! ### with new lists -/
/-- a value and a new list -/
def d2N (g : D → List D → Mu → DK → Prop) (ta : DTE) (t : DTA) : DTE := fun r m R => ta r m fun x m1 => t r m1 fun ys m2 => g x ys m2 R
/-- two new lists -/
def dNN (g : List D → List D → Mu → DK → Prop) (t u : DTA) : DTE := fun r m R => t r m fun xs m1 => u r m1 fun ys m2 => g xs ys m2 R
def Lift2N (K : PySem.W.Frag) (r : R2) (g : D → List D → Mu → DK → Prop) : Prop := ∀ H m x ys v a ws R Q, RepM K H m → Rep K H x v → H a = some (.lst ws) → m a = none → Reps K H ys ws → g x ys m R → Done K H m R Q → r v (.ref a) H Q
def LiftNN (K : PySem.W.Frag) (r : R2) (g : List D → List D → Mu → DK → Prop) : Prop := ∀ H m xs ys a vs b ws R Q, RepM K H m → H a = some (.lst vs) → m a = none → Reps K H xs vs → H b = some (.lst ws) → m b = none → Reps K H ys ws → g xs ys m R → Done K H m R Q → r (.ref a) (.ref b) H Q
theorem l2N {r : R2} {g : D → List D → Mu → DK → Prop} {K : PySem.W.Frag} (hg : Lift2N K r g) : ∀ s H Q, lE K (d2N g ta t) s H Q → tOp r (lE K ta) (lL K t) s H Q := fun s H Q ⟨ρ, m, R, hs, M, h, q⟩ =>
  ⟨ρ, m, _, hs, M, h, fun x m1 v H1 h1 s1 M1 q1 => ⟨ρ, m1, _, hs.keep s1.keep, M1, h1, fun ys m2 a ws H2 h2 s2 M2 ha hm hH ry => hg H2 m2 x ys v a ws R Q M2 (q1.keep s2.keep) ha hm ry h2 (q.step (s1.trans s2))⟩⟩
theorem lNN {r : R2} {g : List D → List D → Mu → DK → Prop} {K : PySem.W.Frag} (hg : LiftNN K r g) : ∀ s H Q, lE K (dNN g t u) s H Q → tOp r (lL K t) (lL K u) s H Q := fun s H Q ⟨ρ, m, R, hs, M, h, q⟩ =>
  ⟨ρ, m, _, hs, M, h, fun xs m1 a vs H1 h1 s1 M1 ha hm hH rx => ⟨ρ, m1, _, hs.keep s1.keep, M1, h1, fun ys m2 b ws H2 h2 s2 M2 hb hmb hHb ry =>
    hg H2 m2 xs ys a vs b ws R Q M2 (s2.fr _ _ ha hm) (s2.noM hm ha) (rx.keep s2.keep) hb hmb ry h2 (q.step (s1.trans s2))⟩⟩
theorem de_cmp2N {op : CmpOp} {r : R2} {g : D → List D → Mu → DK → Prop} (ho : OpR X (compareOp op) r) (hg : Lift2N X.K r g) (ha : DE X a ta) (hb : DN X b t) (hm : behindInMarks op b = false) : DE X (.Compare a [op] [b] pos) (d2N g ta t) := ⟨(pe_cmpR ho ha.p hb.p hm).of (l2N hg)⟩
theorem de_cmpNN {op : CmpOp} {r : R2} {g : List D → List D → Mu → DK → Prop} (ho : OpR X (compareOp op) r) (hg : LiftNN X.K r g) (ha : DN X a t) (hb : DN X b u) (hm : behindInMarks op b = false) : DE X (.Compare a [op] [b] pos) (dNN g t u) := ⟨(pe_cmpR ho ha.p hb.p hm).of (lNN hg)⟩
theorem dt_of {op : CmpOp} {r : R2} {g : DTE} {tx ty : TE} (h : PT X (.Compare a [op] [b] pos) (tTest (tOp r tx ty))) (hl : ∀ s H Q, lE X.K g s H Q → tOp r tx ty s H Q) : DT X (.Compare a [op] [b] pos) (tBool g) :=
  ⟨h.of fun s H Q ⟨ρ, m, R, hs, M, h, q⟩ => by
    refine hl s H _ ⟨ρ, m, _, hs, M, h, fun x m1 v H1 h1 s1 M1 q1 => ?_⟩
    split at h1
    · rename_i c
      exact ⟨c, Rep.bl_.mp q1, q _ _ _ h1 s1 M1⟩
    · exact h1.elim⟩
theorem dt_cmp2N {op : CmpOp} {r : R2} {g : D → List D → Mu → DK → Prop} (ho : OpR X (compareOp op) r) (hg : Lift2N X.K r g) (ha : DE X a ta) (hb : DN X b t) (hm : behindInMarks op b = false) : DT X (.Compare a [op] [b] pos) (tBool (d2N g ta t)) := dt_of (pt_cmpR ho ha.p hb.p hm) (l2N hg)
theorem dt_cmpNN {op : CmpOp} {r : R2} {g : List D → List D → Mu → DK → Prop} (ho : OpR X (compareOp op) r) (hg : LiftNN X.K r g) (ha : DN X a t) (hb : DN X b u) (hm : behindInMarks op b = false) : DT X (.Compare a [op] [b] pos) (tBool (dNN g t u)) := dt_of (pt_cmpR ho ha.p hb.p hm) (lNN hg)
def gEqN (neg : Bool) : D → List D → Mu → DK → Prop := fun x ys m R => match py m deep x with
  | some p => match pyAll (py m deep) ys with
    | some qs => R (.bl (xor neg (PyData.eqv p (.list qs)))) m
    | none => False
  | none => False
def gEqNN (neg : Bool) : List D → List D → Mu → DK → Prop := fun xs ys m R => match pyAll (py m deep) xs with
  | some ps => match pyAll (py m deep) ys with
    | some qs => R (.bl (xor neg (PyData.eqv (.list ps) (.list qs)))) m
    | none => False
  | none => False
theorem list_shaped {m : Mu} {ds : List D} {ps : List PyData} (h : pyAll (py m deep) ds = some ps) : SeqAt.shaped (.list ps) = true := by
  obtain ⟨a, b⟩ := pyAll_shape (py_shape deep) h
  have e1 : (PyData.list ps).canLay0 = true := by simp [PyData.canLay0, a]
  have e2 : (PyData.list ps).depth ≤ 64 := by
    simp only [PyData.depth]
    unfold deep at b
    omega
  unfold SeqAt.shaped
  rw [e1, decide_eq_true e2]
  rfl
theorem lift_eqN {K : PySem.W.Frag} : Lift2N K (rEqD K) (gEqN false) := fun H m x ys v a ws R Q M r1 ha hm ry h q => by
  unfold gEqN at h
  split at h
  · rename_i p ep
    split at h
    · rename_i z ez
      exact ⟨p, .list z, py_dp M _ _ _ _ ep r1, .lst (SqL.of ha) (pyAll_dp (py_dp M _) ez ry), py_shaped ep (by decide), list_shaped ez, q.here h M (Rep.bl_.mpr (by rw [Bool.false_xor]))⟩
    · exact h.elim
  · exact h.elim
theorem lift_neN {K : PySem.W.Frag} : Lift2N K (rNeD K) (gEqN true) := fun H m x ys v a ws R Q M r1 ha hm ry h q => by
  unfold gEqN at h
  split at h
  · rename_i p ep
    split at h
    · rename_i z ez
      exact ⟨p, .list z, py_dp M _ _ _ _ ep r1, .lst (SqL.of ha) (pyAll_dp (py_dp M _) ez ry), py_shaped ep (by decide), list_shaped ez, q.here h M (Rep.bl_.mpr (by rw [Bool.true_xor]))⟩
    · exact h.elim
  · exact h.elim
theorem lift_eqNN {K : PySem.W.Frag} : LiftNN K (rEqD K) (gEqNN false) := fun H m xs ys a vs b ws R Q M ha hma rx hb hmb ry h q => by
  unfold gEqNN at h
  split at h
  · rename_i p ep
    split at h
    · rename_i z ez
      exact ⟨.list p, .list z, .lst (SqL.of ha) (pyAll_dp (py_dp M _) ep rx), .lst (SqL.of hb) (pyAll_dp (py_dp M _) ez ry), list_shaped ep, list_shaped ez, q.here h M (Rep.bl_.mpr (by rw [Bool.false_xor]))⟩
    · exact h.elim
  · exact h.elim
theorem lift_neNN {K : PySem.W.Frag} : LiftNN K (rNeD K) (gEqNN true) := fun H m xs ys a vs b ws R Q M ha hma rx hb hmb ry h q => by
  unfold gEqNN at h
  split at h
  · rename_i p ep
    split at h
    · rename_i z ez
      exact ⟨.list p, .list z, .lst (SqL.of ha) (pyAll_dp (py_dp M _) ep rx), .lst (SqL.of hb) (pyAll_dp (py_dp M _) ez ry), list_shaped ep, list_shaped ez, q.here h M (Rep.bl_.mpr (by rw [Bool.true_xor]))⟩
    · exact h.elim
  · exact h.elim
theorem de_eqN (hr : Room k X.A) (ha : DE X a ta) (hb : DN X b t) : DE X (.Compare a [.Eq] [b] pos) (d2N (gEqN false) ta t) := de_cmp2N (op_eqD hr.units) lift_eqN ha hb (nomark _)
theorem de_neN (hr : Room k X.A) (ha : DE X a ta) (hb : DN X b t) : DE X (.Compare a [.NotEq] [b] pos) (d2N (gEqN true) ta t) := de_cmp2N (op_neD hr.units) lift_neN ha hb (nomark _)
theorem de_eqNN (hr : Room k X.A) (ha : DN X a t) (hb : DN X b u) : DE X (.Compare a [.Eq] [b] pos) (dNN (gEqNN false) t u) := de_cmpNN (op_eqD hr.units) lift_eqNN ha hb (nomark _)
theorem de_neNN (hr : Room k X.A) (ha : DN X a t) (hb : DN X b u) : DE X (.Compare a [.NotEq] [b] pos) (dNN (gEqNN true) t u) := de_cmpNN (op_neD hr.units) lift_neNN ha hb (nomark _)
theorem dt_eqN (hr : Room k X.A) (ha : DE X a ta) (hb : DN X b t) : DT X (.Compare a [.Eq] [b] pos) (tBool (d2N (gEqN false) ta t)) := dt_cmp2N (op_eqD hr.units) lift_eqN ha hb (nomark _)
theorem dt_neN (hr : Room k X.A) (ha : DE X a ta) (hb : DN X b t) : DT X (.Compare a [.NotEq] [b] pos) (tBool (d2N (gEqN true) ta t)) := dt_cmp2N (op_neD hr.units) lift_neN ha hb (nomark _)
theorem dt_eqNN (hr : Room k X.A) (ha : DN X a t) (hb : DN X b u) : DT X (.Compare a [.Eq] [b] pos) (tBool (dNN (gEqNN false) t u)) := dt_cmpNN (op_eqD hr.units) lift_eqNN ha hb (nomark _)
theorem dt_neNN (hr : Room k X.A) (ha : DN X a t) (hb : DN X b u) : DT X (.Compare a [.NotEq] [b] pos) (tBool (dNN (gEqNN true) t u)) := dt_cmpNN (op_neD hr.units) lift_neNN ha hb (nomark _)

/-! ### is None -/
def gIsN (neg : Bool) : D → Mu → DK → Prop := fun x m R => match x with
  | .non => R (.bl (!neg)) m
  | _ => R (.bl neg) m
theorem rep_non {K : PySem.W.Frag} {H : Hp} {x : D} {v : V} (r : Rep K H x v) : decide (v = .non) = (match x with | .non => true | _ => false) := by
  cases x with
  | non => obtain rfl := Rep.non_.mp r; rfl
  | bl _ => obtain rfl := Rep.bl_.mp r; rfl
  | int _ => obtain rfl := Rep.int_.mp r; rfl
  | str _ => obtain rfl := Rep.str_.mp r; rfl
  | ty _ => obtain rfl := Rep.ty_.mp r; rfl
  | ref _ => obtain rfl := Rep.ref_.mp r; rfl
  | tup _ => obtain ⟨_, _, rfl, _⟩ := Rep.tup_.mp r; rfl
  | rl _ => unfold Rep at r; obtain ⟨_, _, rfl, _⟩ := r; rfl
abbrev dIsN := fun (neg : Bool) (ta : DTE) => d1 (gIsN neg) ta
theorem de_isN {j pos'} (ha : DE X a ta) : DE X (.Compare a [.Is] [.Constant .none j pos'] pos) (dIsN false ta) :=
  ⟨(pe_cmp (pc_isN ha.p) (nomark _)).of fun s H Q ⟨r, m, R, hs, M, h, q⟩ => ⟨r, m, _, hs, M, h, fun x m1 v H1 h1 s1 M1 q1 => by
    show Q (.bl (decide (v = .non))) H1
    rw [rep_non q1]
    unfold gIsN at h1
    cases x <;> exact q _ _ _ _ h1 s1 M1 (Rep.bl_.mpr rfl)⟩⟩
theorem de_notN {j pos'} (ha : DE X a ta) : DE X (.Compare a [.IsNot] [.Constant .none j pos'] pos) (dIsN true ta) :=
  ⟨(pe_cmp (pc_notN ha.p) (nomark _)).of fun s H Q ⟨r, m, R, hs, M, h, q⟩ => ⟨r, m, _, hs, M, h, fun x m1 v H1 h1 s1 M1 q1 => by
    show Q (.bl (!decide (v = .non))) H1
    rw [rep_non q1]
    unfold gIsN at h1
    cases x <;> exact q _ _ _ _ h1 s1 M1 (Rep.bl_.mpr rfl)⟩⟩
theorem dt_isN {j pos'} (ha : DE X a ta) : DT X (.Compare a [.Is] [.Constant .none j pos'] pos) (tBool (dIsN false ta)) :=
  ⟨(pt_cmp (pc_isN ha.p) (nomark _)).of fun s H Q ⟨r, m, R, hs, M, h, q⟩ => ⟨r, m, _, hs, M, h, fun x m1 v H1 h1 s1 M1 q1 => by
    show ∃ c, V.bl (decide (v = .non)) = .bl c ∧ Q c H1
    refine ⟨_, rfl, ?_⟩
    rw [rep_non q1]
    unfold gIsN at h1
    cases x <;> exact q _ _ _ h1 s1 M1⟩⟩
theorem dt_notN {j pos'} (ha : DE X a ta) : DT X (.Compare a [.IsNot] [.Constant .none j pos'] pos) (tBool (dIsN true ta)) :=
  ⟨(pt_cmp (pc_notN ha.p) (nomark _)).of fun s H Q ⟨r, m, R, hs, M, h, q⟩ => ⟨r, m, _, hs, M, h, fun x m1 v H1 h1 s1 M1 q1 => by
    show ∃ c, V.bl (!decide (v = .non)) = .bl c ∧ Q c H1
    refine ⟨_, rfl, ?_⟩
    rw [rep_non q1]
    unfold gIsN at h1
    cases x <;> exact q _ _ _ h1 s1 M1⟩⟩

/-! ### in, not in -/
def rInA (K : PySem.W.Frag) (neg : Bool) : R2 := fun x y H Q => ∃ d ds, Dp K H x d ∧ (Dp K H y (.list ds) ∨ Dp K H y (.tuple ds)) ∧ SeqAt.shaped d = true ∧ PyData.canLayAll0 ds = true ∧ Q (.bl (xor neg (ds.any fun z => PyData.eqv z d))) H
theorem room_in {A : Around} {ds : List PyData} {d : PyData} (h : SeqAt.shaped d = true) (hu : A.units + 65 < cLine) : A.units + 1 + min (PyData.depthAll ds) d.depth < cLine := by
  have h1 := SeqAt.depth_of_shaped h
  have h2 : min (PyData.depthAll ds) d.depth ≤ d.depth := Nat.min_le_right _ _
  omega
theorem op_inA (hu : X.A.units + 65 < cLine) : OpR X (compareOp .In) (rInA X.K false) := by
  intro pins s σ H x y v u Q I rx ry h
  obtain ⟨d, ds, hd, he, sd, se, q⟩ := h
  rw [Bool.false_xor] at q
  obtain ⟨as, r1⟩ := Dp.reads I d x v hd rx
  rcases he with he | he
  · obtain ⟨bs, r2⟩ := Dp.reads I (.list ds) y u he ry
    exact SeqAt.in_list_reads r2 r1 se (SeqAt.canLay_of_shaped sd) (room_in sd hu) ⟨.bl _, H, I, rfl, q⟩
  · obtain ⟨bs, r2⟩ := Dp.reads I (.tuple ds) y u he ry
    exact SeqAt.in_tuple_reads r2 r1 se (SeqAt.canLay_of_shaped sd) (room_in sd hu) ⟨.bl _, H, I, rfl, q⟩
theorem op_notInA (hu : X.A.units + 65 < cLine) : OpR X (compareOp .NotIn) (rInA X.K true) := by
  intro pins s σ H x y v u Q I rx ry h
  obtain ⟨d, ds, hd, he, sd, se, q⟩ := h
  rw [Bool.true_xor] at q
  obtain ⟨as, r1⟩ := Dp.reads I d x v hd rx
  rcases he with he | he
  · obtain ⟨bs, r2⟩ := Dp.reads I (.list ds) y u he ry
    exact SeqAt.notIn_list_reads r2 r1 se (SeqAt.canLay_of_shaped sd) (room_in sd hu) ⟨.bl _, H, I, rfl, q⟩
  · obtain ⟨bs, r2⟩ := Dp.reads I (.tuple ds) y u he ry
    exact SeqAt.notIn_tuple_reads r2 r1 se (SeqAt.canLay_of_shaped sd) (room_in sd hu) ⟨.bl _, H, I, rfl, q⟩
def gIn (neg : Bool) : G2 := fun x y m R => match py m deep x with
  | some p => match seqOf m y with
    | some ds => match pyAll (py m deep) ds with
      | some qs => R (.bl (xor neg (qs.any fun z => PyData.eqv z p))) m
      | none => False
    | none => False
  | none => False
theorem lift_in {K : PySem.W.Frag} {neg : Bool} : Lift2 K (rInA K neg) (gIn neg) := fun H m x y v w R Q M r1 r2 h q => by
  unfold gIn at h
  split at h
  · rename_i p ep
    split at h
    · rename_i ds eds
      split at h
      · rename_i qs eqs
        obtain ⟨a, xs, rfl, hs, rx⟩ := seqOf_rep M r2 eds
        have hd := pyAll_dp (py_dp M deep) eqs rx
        refine ⟨p, qs, py_dp M _ _ _ _ ep r1, ?_, py_shaped ep (by decide), (pyAll_shape (py_shape deep) eqs).1, q.here h M (Rep.bl_.mpr rfl)⟩
        rcases hs with hs | hs
        · exact .inl (.lst hs hd)
        · exact .inr (.tup hs hd)
      · exact h.elim
    · exact h.elim
  · exact h.elim
def gInN (neg : Bool) : D → List D → Mu → DK → Prop := fun x ds m R => match py m deep x with
  | some p => match pyAll (py m deep) ds with
    | some qs => R (.bl (xor neg (qs.any fun z => PyData.eqv z p))) m
    | none => False
  | none => False
theorem lift_inN {K : PySem.W.Frag} {neg : Bool} : Lift2N K (rInA K neg) (gInN neg) := fun H m x ys v a ws R Q M r1 ha hm ry h q => by
  unfold gInN at h
  split at h
  · rename_i p ep
    split at h
    · rename_i qs eqs
      exact ⟨p, qs, py_dp M _ _ _ _ ep r1, .inl (.lst (SqL.of ha) (pyAll_dp (py_dp M deep) eqs ry)), py_shaped ep (by decide), (pyAll_shape (py_shape deep) eqs).1, q.here h M (Rep.bl_.mpr rfl)⟩
    · exact h.elim
  · exact h.elim
theorem Room.units65 {A : Around} (hr : Room k A) : A.units + 65 < cLine := by have := hr.un; omega
theorem de_in (hr : Room k X.A) (ha : DE X a ta) (hb : DE X b tb) (hm : behindInMarks .In b = false := by rfl) : DE X (.Compare a [.In] [b] pos) (d2 (gIn false) ta tb) := de_cmp (op_inA (Room.units65 hr)) lift_in ha hb hm
theorem de_notin (hr : Room k X.A) (ha : DE X a ta) (hb : DE X b tb) (hm : behindInMarks .NotIn b = false := by rfl) : DE X (.Compare a [.NotIn] [b] pos) (d2 (gIn true) ta tb) := de_cmp (op_notInA (Room.units65 hr)) lift_in ha hb hm
theorem dt_in (hr : Room k X.A) (ha : DE X a ta) (hb : DE X b tb) (hm : behindInMarks .In b = false := by rfl) : DT X (.Compare a [.In] [b] pos) (tBool (d2 (gIn false) ta tb)) := dt_cmp (op_inA (Room.units65 hr)) lift_in ha hb hm
theorem dt_notin (hr : Room k X.A) (ha : DE X a ta) (hb : DE X b tb) (hm : behindInMarks .NotIn b = false := by rfl) : DT X (.Compare a [.NotIn] [b] pos) (tBool (d2 (gIn true) ta tb)) := dt_cmp (op_notInA (Room.units65 hr)) lift_in ha hb hm
theorem dt_notinN (hr : Room k X.A) (ha : DE X a ta) (hb : DN X b t) (hm : behindInMarks .NotIn b = false := by rfl) : DT X (.Compare a [.NotIn] [b] pos) (tBool (d2N (gInN true) ta t)) := dt_cmp2N (op_notInA (Room.units65 hr)) lift_inN ha hb hm
theorem dt_inN (hr : Room k X.A) (ha : DE X a ta) (hb : DN X b t) (hm : behindInMarks .In b = false := by rfl) : DT X (.Compare a [.In] [b] pos) (tBool (d2N (gInN false) ta t)) := dt_cmp2N (op_inA (Room.units65 hr)) lift_inN ha hb hm

/-! ### power, shift, <= of tuples of ints -/
abbrev dPow := d2 (gI CPow fun i j => .int (i ^ j.toNat))
abbrev dShl := d2 (gI CPow fun i j => .int (i * 2 ^ j.toNat))
theorem de_pow (ha : DE X a ta) (hb : DE X b tb) : DE X (.BinOp a .Pow b pos) (dPow ta tb) := de_op op_pow lift_intC ha hb
theorem de_shl (ha : DE X a ta) (hb : DE X b tb) : DE X (.BinOp a .LShift b pos) (dShl ta tb) := de_op op_shl lift_intC ha hb
def intsOf : List D → Option (List Int)
  | [] => some []
  | .int i :: ds => match intsOf ds with
    | some is => some (i :: is)
    | none => none
  | _ :: _ => none
theorem intsOf_map : ∀ {ds : List D} {ns : List Int}, intsOf ds = some ns → ds = ns.map D.int
  | [], ns, h => by unfold intsOf at h; cases h; rfl
  | .int i :: ds, ns, h => by
    unfold intsOf at h
    split at h
    · rename_i is e
      cases h
      rw [intsOf_map e]; rfl
    · cases h
  | .non :: ds, ns, h => by simp [intsOf] at h
  | .bl _ :: ds, ns, h => by simp [intsOf] at h
  | .str _ :: ds, ns, h => by simp [intsOf] at h
  | .tup _ :: ds, ns, h => by simp [intsOf] at h
  | .ref _ :: ds, ns, h => by simp [intsOf] at h
  | .ty _ :: ds, ns, h => by simp [intsOf] at h
  | .rl _ :: ds, ns, h => by simp [intsOf] at h
theorem intsOf_of : ∀ (ns : List Int), intsOf (ns.map D.int) = some ns
  | [] => rfl
  | n :: ns => by
    show intsOf (.int n :: ns.map D.int) = _
    unfold intsOf
    rw [intsOf_of ns]
def lexLe (ns ms : List Int) : Bool := Ob.lexAt (fun j => decide (ns.getD j 0 = ms.getD j 0)) (fun j => decide (ns.getD j 0 ≤ ms.getD j 0)) (decide (ns.length ≤ ms.length)) 0 (min ns.length ms.length)
/-- <= of ints or of tuples of ints -/
def gLe : G2 := fun x y m R => match x, y with
  | .int i, .int j => R (.bl (decide (i ≤ j))) m
  | .tup ds, .tup es => match intsOf ds with
    | some ns => match intsOf es with
      | some ms => R (.bl (lexLe ns ms)) m
      | none => False
    | none => False
  | _, _ => False
theorem lift_le {K : PySem.W.Frag} : Lift2 K (fun x y H Q => rI0 (fun i j => .bl (decide (i ≤ j))) x y H Q ∨ rLeT K x y H Q) gLe := fun H m x y v w R Q M r1 r2 h q => by
  unfold gLe at h
  split at h
  · rename_i i j
    exact .inl ⟨i, j, Rep.int_.mp r1, Rep.int_.mp r2, q.here h M (Rep.bl_.mpr rfl)⟩
  · rename_i ds es
    split at h
    · rename_i ns en
      split at h
      · rename_i ms em
        obtain ⟨a, xs, rfl, hx, rx⟩ := Rep.tup_.mp r1
        obtain ⟨b, ys, rfl, hy, ry⟩ := Rep.tup_.mp r2
        rw [intsOf_map en] at rx
        rw [intsOf_map em] at ry
        rw [rx.ints] at hx
        rw [ry.ints] at hy
        exact .inr ⟨a, b, ns, ms, rfl, rfl, hx, hy, q.here h M (Rep.bl_.mpr rfl)⟩
      · exact h.elim
    · exact h.elim
  · exact h.elim
abbrev dLeA := d2 gLe
theorem de_leA (hr : Room k X.A) (ha : DE X a ta) (hb : DE X b tb) : DE X (.Compare a [.LtE] [b] pos) (dLeA ta tb) := de_cmp (op_le.or (op_leT hr.units0)) lift_le ha hb (nomark _)
theorem dt_leA (hr : Room k X.A) (ha : DE X a ta) (hb : DE X b tb) : DT X (.Compare a [.LtE] [b] pos) (tBool (dLeA ta tb)) := dt_cmp (op_le.or (op_leT hr.units0)) lift_le ha hb (nomark _)
end
end DL

/-! zip and enumerate over lists, tuples and texts in any mix -/
namespace DL
open PySem PySem.Spec PyProof.Rows L2

/-- what zip or enumerate walks -/
inductive Src where
  | lst (a : Addr)
  | tup (a : Addr)
  | txt (z : Str) (t : Tok)
def signs (z : Str) : List V := z.cps.toList.map fun c => V.str ⟨#[c]⟩
def Src.at (K : PySem.W.Frag) (H : Hp) (xs : List V) : Src → Prop
  | .lst a => SqL K H a xs
  | .tup a => SqT K H a xs
  | .txt z _ => xs = signs z
def Src.val : Src → Value
  | .lst a => .ref a
  | .tup a => .ref a
  | .txt z t => .str z t
def Src.ob : Src → Obj
  | .lst a => { cls := .type "list_iterator", data := .fields #[.ref a, .int 0 0] }
  | .tup a => { cls := .type "tuple_iterator", data := .fields #[.ref a, .int 0 0] }
  | .txt z t => { cls := .type (strIterType z), data := .fields #[.str z t, .int 0 0] }
/-- the iterator it stands at place i -/
def Src.it (it : Addr) (i : Nat) (h : Heap) : Src → Prop
  | .lst a => h.IsListIter it a i
  | .tup a => h.IsTupleIter it a i
  | .txt z t => h.IsStrIter it (strIterType z) z t i
def Src.ad : Src → List Addr
  | .lst a => [a]
  | .tup a => [a]
  | .txt _ _ => []
theorem Src.it_ob {src : Src} {it : Addr} {i : Nat} {h : Heap} (st : src.it it i h) : ∃ o, h.get? it = some o ∧ ∀ v, o.data ≠ .cell v := by
  cases src with
  | lst a => obtain ⟨o, e, c, d⟩ := st; exact ⟨o, e, fun v q => by rw [d] at q; cases q⟩
  | tup a => obtain ⟨o, e, c, d⟩ := st; exact ⟨o, e, fun v q => by rw [d] at q; cases q⟩
  | txt z t => obtain ⟨o, e, c, d⟩ := st; exact ⟨o, e, fun v q => by rw [d] at q; cases q⟩
theorem Src.it_at {src : Src} {it : Addr} {i : Nat} {h h' : Heap} (st : src.it it i h) (k : ∀ o, h.get? it = some o → h'.get? it = some o) : src.it it i h' := by
  cases src with
  | lst a => exact Heap.IsListIter.at st k
  | tup a => exact Heap.IsTupleIter.at st k
  | txt z t => obtain ⟨o, e, r⟩ := st; exact ⟨o, k o e, r⟩
theorem Src.it_new {src : Src} {it : Addr} {h : Heap} (e : h.get? it = some src.ob) : src.it it 0 h := by
  cases src with
  | lst a => exact ⟨_, e, rfl, rfl⟩
  | tup a => exact ⟨_, e, rfl, rfl⟩
  | txt z t => exact ⟨_, e, rfl, rfl⟩
section
variable {X : Cx} {pins : List (Addr × Obj)} {σ : L2.St} {H : Hp} {s : Shared}
theorem Src.inj {src : Src} {xs ys : List V} (I : Inv X pins σ H s) (h1 : src.at X.K H xs) (h2 : src.at X.K H ys) : xs = ys := by
  cases src with
  | lst a => exact I.list_inj h1 h2
  | tup a => exact I.tuple_inj h1 h2
  | txt z t => exact (show xs = signs z from h1).trans (show ys = signs z from h2).symm
theorem Src.lt {src : Src} {xs : List V} (I : Inv X pins σ H s) (h : src.at X.K H xs) : ∀ b ∈ src.ad, b < s.heap.objs.size := by
  intro b hb
  cases src with
  | lst a =>
    have e : b = a := by simpa [Src.ad] using hb
    subst e
    obtain ⟨its, _, p, _⟩ := I.list h
    exact p.lt
  | tup a =>
    have e : b = a := by simpa [Src.ad] using hb
    subst e
    obtain ⟨its, _, p, _⟩ := I.tuple h
    exact p.lt
  | txt z t => simp [Src.ad] at hb
/-- it draws the items -/
theorem Src.draws {A : Around} {src : Src} {it : Addr} {xs : List V} (hh : A.handled = none) (I : Inv X pins σ H s) (h : src.at X.K H xs) (hne : ∀ b ∈ src.ad, b ≠ it) :
    ∃ (P : Nat → Value → Prop) (St : Nat → Heap → Prop), Draws X.prog X.w A it (it :: src.ad) xs.length P St ∧ (∀ i, src.it it i s.heap → St i s.heap) ∧ (∀ i h, St i h → src.it it i h) ∧ (∀ i u, P i u → ∃ x, xs[i]? = some x ∧ RelV x u) := by
  cases src with
  | lst a =>
    obtain ⟨its, rv, p, hz⟩ := I.list h
    have hl : xs.length = its.toArray.size := by rw [List.size_toArray]; exact rv.length
    rw [hl]
    refine ⟨_, _, Draws.list hh it a (hne a (by simp [Src.ad])) its.toArray, fun i st => ⟨st, p.isList⟩, fun i h st => st.1, fun i u e => ?_⟩
    have e' : its[i]? = some u := by simpa using e
    exact paired_get' rv e'
  | tup a =>
    obtain ⟨its, rv, p, hz⟩ := I.tuple h
    have hl : xs.length = its.toArray.size := by rw [List.size_toArray]; exact rv.length
    rw [hl]
    refine ⟨_, _, Draws.tuple hh it a (hne a (by simp [Src.ad])) its.toArray, fun i st => ⟨st, p⟩, fun i h st => st.1, fun i u e => ?_⟩
    have e' : its[i]? = some u := by simpa using e
    exact paired_get' rv e'
  | txt z t =>
    have e : xs = signs z := h
    have hl : xs.length = z.cps.size := by rw [e]; simp [signs]
    rw [hl]
    refine ⟨_, _, Draws.text hh it z t, fun i st => st, fun i h st => st, fun i u ⟨c, t', e1, e2⟩ => ⟨.str ⟨#[c]⟩, ?_, t', e2⟩⟩
    rw [e]
    simp [signs, e1]
where
  paired_get' {xs : List V} {us : List Value} {i : Nat} {u : Value} (r : Vals xs us) (e : us[i]? = some u) : ∃ x, xs[i]? = some x ∧ RelV x u := by
    have hl := r.length
    have hi : i < us.length := (List.getElem?_eq_some_iff.mp e).1
    obtain ⟨u', e', r'⟩ := r.get (List.getElem?_eq_getElem (l := xs) (i := i) (by omega))
    rw [e] at e'
    cases e'
    exact ⟨_, List.getElem?_eq_getElem (by omega), r'⟩
theorem Src.begins (src : Src) : ∃ Hb : Heap → Prop, Begins src.val src.ob Hb ∧ ∀ {X : Cx} {pins : List (Addr × Obj)} {σ : L2.St} {H : Hp} {s : Shared} {xs : List V}, Inv X pins σ H s → src.at X.K H xs → Hb s.heap := by
  cases src with
  | lst a => exact ⟨fun h => ∃ items, h.IsList a items, ⟨fun prog w A E s Q ⟨items, hl⟩ h => wpAny_pyIter_list hl h, fun h h' ⟨items, x⟩ hk => ⟨items, x.at fun o e => hk a o e⟩, rfl⟩, fun I h => by
      obtain ⟨its, _, p, _⟩ := I.list h
      exact ⟨_, p.isList⟩⟩
  | tup a => exact ⟨fun h => ∃ items, h.IsTuple a items, ⟨fun prog w A E s Q ⟨items, hl⟩ h => wpAny_pyIter_tuple hl h, fun h h' ⟨items, x⟩ hk => ⟨items, x.at fun o e => hk a o e⟩, rfl⟩, fun I h => by
      obtain ⟨its, _, p, _⟩ := I.tuple h
      exact ⟨_, p⟩⟩
  | txt z t => exact ⟨fun _ => True, begins_text z t, fun _ _ => trivial⟩
end

/-! ### zip -/
def ItzS (K : PySem.W.Frag) (a b : Src) : It :=
  ⟨fun i H => ∃ (xs ys : List V), a.at K H xs ∧ b.at K H ys ∧ i < xs.length ∧ i < ys.length,
    fun i H v H' => ∃ T x y, v = .ref T ∧ H T = none ∧ H' = upd H T (.tup [x, y]) ∧ (∀ xs, a.at K H xs → xs[i]? = some x) ∧ ∀ ys, b.at K H ys → ys[i]? = some y,
    fun i H => ∃ xs ys : List V, a.at K H xs ∧ b.at K H ys ∧ i = min xs.length ys.length⟩
theorem turn_zipS {P : Program} {w : World} {K : PySem.W.Frag} {elts : List Expr} {kk : Nat} {tpos : Pos} {a b : Src} {z TI TO i1 i2 : Addr} (S : ZipSep2 z TI TO i1 i2 (i1 :: a.ad) (i2 :: b.ad)) (n1 : ∀ c ∈ a.ad, c ≠ i1) (n2 : ∀ c ∈ b.ad, c ≠ i2) :
    Turn P w K (.Tuple elts kk tpos) (ItzS K a b) [z, TI, TO, i1, i2] z (fun i h => IsZip h z TI TO .none ∧ IsTupOf2 h TI (.ref i1) (.ref i2) ∧ (∃ x y, IsTupOf2 h TO x y) ∧ a.it i1 i h ∧ b.it i2 i h) where
  mem := by simp
  obj := fun i h st c hc => by
    obtain ⟨hz, hTI, ⟨x, y, hTO⟩, s1, s2⟩ := st
    have e' : c = z ∨ c = TI ∨ c = TO ∨ c = i1 ∨ c = i2 := by simpa using hc
    rcases e' with q | q | q | q | q
    · rw [q]; exact ⟨_, hz, fun v q => nomatch q⟩
    · rw [q]; exact ⟨_, hTI, fun v q => nomatch q⟩
    · rw [q]; exact ⟨_, hTO, fun v q => nomatch q⟩
    · rw [q]; exact Src.it_ob (src := a) s1
    · rw [q]; exact Src.it_ob (src := b) s2
  keep := fun i h h' st k => by
    obtain ⟨hz, hTI, ⟨x, y, hTO⟩, h1, h2⟩ := st
    exact ⟨k z (by simp) _ hz, k TI (by simp) _ hTI, ⟨x, y, k TO (by simp) _ hTO⟩, Src.it_at (src := a) h1 fun o q => k i1 (by simp) o q, Src.it_at (src := b) h2 fun o q => k i2 (by simp) o q⟩
  item := by
    intro X hP hw hK hc i pins s σ H E I hf st hg
    subst hP hw hK
    obtain ⟨hz, hTI, ⟨x0, y0, hTO⟩, h1, h2⟩ := st
    obtain ⟨xs, ys, hqx, hqy, hx, hy⟩ := hg
    have hh : X.A.in1.handled = none := I.ok.hd hc
    obtain ⟨P1, St1, D1, d1, d1', p1⟩ := Src.draws (it := i1) hh I hqx n1
    obtain ⟨P2, St2, D2, d2, d2', p2⟩ := Src.draws (it := i2) hh I hqy n2
    have hzl : z < s.heap.objs.size := Heap.lt_size hz
    refine wpAny_pyNext_zipD2_item S D1 D2 hz hTI hTO (d1 i h1) (d2 i h2) hx hy fun u u2 h' tk y1 y2 z' TO' h1' h2' hT hsz hk => ?_
    refine ⟨_, rfl, wpAny_letOwnedTupleGo_zip (s := { s with heap := h', toks := tk }) z' fun h'' z'' sb => ?_⟩
    obtain ⟨x, ex, ru⟩ := p1 i u y1
    obtain ⟨y, ey, ru2⟩ := p2 i u2 y2
    have hT2 : h''.get? s.heap.objs.size = some { cls := .type "tuple", data := .seq #[u, u2] } := (sb.2 _ (Nat.ne_of_gt hzl)).trans hT
    have new : ObjOk X.prog X.w (upd H s.heap.objs.size (.tup [x, y])) h'' s.heap.objs.size (.tup [x, y]) :=
      ⟨by show 2 ≤ sizeLine; decide, [u, u2], .cons ru (.cons ru2 .nil), ⟨_, hT2, rfl, _, rfl⟩⟩
    have I1 : Inv X pins σ (upd H s.heap.objs.size (.tup [x, y])) { s with heap := h'', toks := tk } :=
      I.turnedNew (t' := tk) (ch := [z, TI, TO, i1, i2]) (fun c o hb q => (sb.2 c (fun q' => hb (by simp [q']))).trans (hk c o (fun q' => hb (by simp [q'])) (fun q' => hb (by simp [q'])) (fun q' => hb (by simp [q'])) (fun q' => hb (by simp [q'])) q)) hf (Nat.le_refl _) new
    refine ⟨.ref s.heap.objs.size, _, I1, rfl, ⟨_, x, y, rfl, I.hok.fresh (Nat.le_refl _), rfl, fun l hl => by rw [Src.inj I hl hqx]; exact ex, fun l hl => by rw [Src.inj I hl hqy]; exact ey⟩, ⟨z'', ?_, ⟨u, u2, ?_⟩, ?_, ?_⟩, fun c hcm => ?_⟩
    · exact (sb.2 _ S.TIz).trans (hk _ _ S.TIz S.TITO S.TIi1 S.TIi2 hTI)
    · exact (sb.2 _ S.TOz).trans TO'
    · exact Src.it_at (src := a) (d1' _ _ h1') fun o q => (sb.2 _ (Ne.symm S.zi1)).trans q
    · exact Src.it_at (src := b) (d2' _ _ h2') fun o q => (sb.2 _ (Ne.symm S.zi2)).trans q
    · have hlt : c < s.heap.objs.size := by
        have e' : c = z ∨ c = TI ∨ c = TO ∨ c = i1 ∨ c = i2 := by simpa using hcm
        rcases e' with q | q | q | q | q
        · rw [q]; exact hzl
        · rw [q]; exact Heap.lt_size hTI
        · rw [q]; exact Heap.lt_size hTO
        · rw [q]; obtain ⟨_, e1, _⟩ := Src.it_ob (src := a) h1; exact Heap.lt_size e1
        · rw [q]; obtain ⟨_, e2, _⟩ := Src.it_ob (src := b) h2; exact Heap.lt_size e2
      rw [upd_ne (Nat.ne_of_lt hlt)]
      exact (hf c hcm).1
  done := by
    intro X hP hw hK hc i pins s σ H E I hf st hg
    subst hP hw hK
    obtain ⟨hz, hTI, ⟨x0, y0, hTO⟩, h1, h2⟩ := st
    obtain ⟨xs, ys, hqx, hqy, hend⟩ := hg
    have hh : X.A.in1.handled = none := I.ok.hd hc
    obtain ⟨P1, St1, D1, d1, d1', p1⟩ := Src.draws (it := i1) hh I hqx n1
    obtain ⟨P2, St2, D2, d2, d2', p2⟩ := Src.draws (it := i2) hh I hqy n2
    exact wpAny_pyNext_zipD2_end S D1 D2 hz hTI hTO (d1 i h1) (d2 i h2) (by omega) (by omega) (by omega) fun h' tk hk => ⟨rfl, I.turnedL (t' := tk) (ch := [z, TI, TO, i1, i2]) (fun c o hb q =>
      hk c o (fun q' => hb (by simp [q'])) (fun q' => hb (by simp [q'])) (fun q' => hb (by simp [q'])) (fun q' => hb (by simp [q'])) q) hf⟩
  self := fun A i s Q E st h => wpAny_pyIter_zip st.1 h
/-- a value is such a source -/
def SrcOf (x : V) (src : V → Value → Src → Prop) : Prop := True
def srcV (K : PySem.W.Frag) (H : Hp) (x : V) (u : Value) (src : Src) (xs : List V) : Prop := u = src.val ∧ src.at K H xs
def iZipS (K : PySem.W.Frag) (ta : TA) : TI := fun σ H R => ta σ H fun vs H1 => ∃ x y, vs = [x, y] ∧ ∀ u1 u2, RelV x u1 → RelV y u2 → ∃ a b xs ys, u1 = Src.val a ∧ u2 = Src.val b ∧ a.at K H1 xs ∧ b.at K H1 ys ∧ R (ItzS K a b) H1
theorem pi_zipS {X : Cx} {e e2 : Expr} {ta : TA} {p pos tpos : Pos} {elts : List Expr} {kk : Nat} (hg : Gl X "zip") (hm : X.mg "zip" = none) (ha : PA X [e, e2] ta)
    (hs : starEach [e, e2] X.env = (false, eval e X.env) :: starEach [e2] X.env := by rfl) (hpl : (backTo pos (starEach [e2] X.env)).any (·.1) = false := by rfl) :
    PI X (.Tuple elts kk tpos) (.Call (.Name "zip" p) [e, e2] [] pos) (iZipS X.K ta) := by
  refine ⟨fun pins s σ H R I h => ?_⟩
  refine Call_ (ld_blt I hg hm PyProof.Rows.boot_zip (PyProof.Rows.callWith_type1 (thn (ha.run pos pins s σ H _ I h) fun us s1 ⟨vs, H1, I1, r1, q1⟩ => ?_) hs hpl))
  obtain ⟨x, y, ex, q1⟩ := q1
  subst ex
  obtain ⟨u1, u2, rfl, rx, ry⟩ := Vals.two r1
  obtain ⟨a, b, xs, ys, rfl, rfl, hqx, hqy, q⟩ := q1 u1 u2 rx ry
  obtain ⟨Ha, Ba, ka⟩ := Src.begins a
  obtain ⟨Hb, Bb, kb⟩ := Src.begins b
  refine zip_begins2 Ba Bb (ka I1 hqx) (kb I1 hqy) fun h' hz hTI hTO h1 h2 hsz hk => wpAny_pyIter_zip hz ?_
  have I2 : Inv X pins σ H1 { s1 with heap := h' } := I1.kept (t' := s1.toks) hk
  have la := Src.lt I1 hqx
  have lb := Src.lt I1 hqy
  have S : ZipSep2 (s1.heap.objs.size + 4) (s1.heap.objs.size + 2) (s1.heap.objs.size + 3) s1.heap.objs.size (s1.heap.objs.size + 1) (s1.heap.objs.size :: a.ad) ((s1.heap.objs.size + 1) :: b.ad) := zip_sep2 la lb
  refine ⟨s1.heap.objs.size + 4, [s1.heap.objs.size + 4, s1.heap.objs.size + 2, s1.heap.objs.size + 3, s1.heap.objs.size, s1.heap.objs.size + 1], _, _, H1, rfl, I2,
    turn_zipS S (fun c hc => Nat.ne_of_lt (la c hc)) (fun c hc => Nat.ne_of_lt (Nat.lt_succ_of_lt (lb c hc))), ⟨hz, hTI, ⟨_, _, hTO⟩, Src.it_new h1, Src.it_new h2⟩, fun c hcm => ?_, q⟩
  have e' : c = s1.heap.objs.size + 4 ∨ c = s1.heap.objs.size + 2 ∨ c = s1.heap.objs.size + 3 ∨ c = s1.heap.objs.size ∨ c = s1.heap.objs.size + 1 := by simpa using hcm
  have hle : s1.heap.objs.size ≤ c := by
    rcases e' with z | z | z | z | z
    · rw [z]; exact Nat.le_add_right _ _
    · rw [z]; exact Nat.le_add_right _ _
    · rw [z]; exact Nat.le_add_right _ _
    · rw [z]; exact Nat.le_refl _
    · rw [z]; exact Nat.le_add_right _ _
  exact I1.fpOk hle (I1.hok.fresh hle)

/-! ### enumerate -/
def IteS (K : PySem.W.Frag) (a : Src) : It :=
  ⟨fun i H => ∃ (xs : List V), a.at K H xs ∧ i < xs.length, fun i H v H' => ∃ T x, v = .ref T ∧ H T = none ∧ H' = upd H T (.tup [.int (i : Nat), x]) ∧ ∀ xs, a.at K H xs → xs[i]? = some x, fun i H => ∃ xs : List V, a.at K H xs ∧ i = xs.length⟩
theorem turn_enumS {P : Program} {w : World} {K : PySem.W.Frag} {elts : List Expr} {kk : Nat} {tpos : Pos} {a : Src} {e it : Addr} (hei : e ≠ it) (hea : e ∉ a.ad) (hia : ∀ c ∈ a.ad, c ≠ it) :
    Turn P w K (.Tuple elts kk tpos) (IteS K a) [e, it] e (fun i h => (∃ old, IsEnum h e it ((i : Nat) : Int) old) ∧ a.it it i h) where
  mem := by simp
  obj := fun i h st b hb => by
    obtain ⟨⟨old, he⟩, hs⟩ := st
    have e' : b = e ∨ b = it := by simpa using hb
    rcases e' with z | z
    · rw [z]; exact ⟨_, he, fun v q => nomatch q⟩
    · rw [z]; exact Src.it_ob (src := a) hs
  keep := fun i h h' st k => let ⟨⟨old, he⟩, hi⟩ := st; ⟨⟨old, k e (by simp) _ he⟩, Src.it_at (src := a) hi fun o q => k it (by simp) o q⟩
  item := by
    intro X hP hw hK hc i pins s σ H E I hf st hg
    subst hP hw hK
    obtain ⟨⟨old, he⟩, hit⟩ := st
    obtain ⟨xs, hq, hx⟩ := hg
    have hh : X.A.in1.handled = none := I.ok.hd hc
    obtain ⟨P1, St1, D1, d1, d1', p1⟩ := Src.draws (it := it) hh I hq hia
    have hel : e < s.heap.objs.size := Heap.lt_size he
    have hil : it < s.heap.objs.size := by obtain ⟨_, q, _⟩ := Src.it_ob (src := a) hit; exact Heap.lt_size q
    have hef : e ∉ it :: a.ad := fun z => (List.mem_cons.mp z).elim hei hea
    refine wpAny_pyNext_enum_itemC D1 he (d1 i hit) hx hei hef fun u h' tk y1 ho hit' hT hsz hk => ?_
    obtain ⟨x, ex, ru⟩ := p1 i u y1
    refine ⟨_, rfl, wpAny_letOwnedTupleGo_enum (s := { s with heap := h', toks := tk + 1 }) ho fun h'' he' sb => ?_⟩
    have hT2 : h''.get? s.heap.objs.size = some { cls := .type "tuple", data := .seq #[.int i tk, u] } := (sb.2 _ (Nat.ne_of_gt hel)).trans hT
    have new : ObjOk X.prog X.w (upd H s.heap.objs.size (.tup [.int (i : Nat), x])) h'' s.heap.objs.size (.tup [.int (i : Nat), x]) :=
      ⟨by show 2 ≤ sizeLine; decide, [.int i tk, u], .cons ⟨_, rfl⟩ (.cons ru .nil), ⟨_, hT2, rfl, _, rfl⟩⟩
    have I1 : Inv X pins σ (upd H s.heap.objs.size (.tup [.int (i : Nat), x])) { s with heap := h'', toks := tk + 1 } :=
      I.turnedNew (ch := [e, it]) (fun b ob hb q => (sb.2 b (fun z => hb (by simp [z]))).trans (hk b ob (fun z => hb (by simp [z])) (fun z => hb (by simp [z])) q)) hf (Nat.le_refl _) new
    refine ⟨.ref s.heap.objs.size, _, I1, rfl, ⟨_, x, rfl, I.hok.fresh (Nat.le_refl _), rfl, fun ys hy => by rw [Src.inj I hy hq]; exact ex⟩, ⟨⟨u, ?_⟩, Src.it_at (src := a) (d1' _ _ hit') fun o q => (sb.2 it (Ne.symm hei)).trans q⟩, fun b hb => ?_⟩
    · have e1 : ((i + 1 : Nat) : Int) = (i : Int) + 1 := by omega
      rw [e1]; exact he'
    · have hb' : b < s.heap.objs.size := by
        have e' : b = e ∨ b = it := by simpa using hb
        rcases e' with z | z
        · rw [z]; exact hel
        · rw [z]; exact hil
      rw [upd_ne (Nat.ne_of_lt hb')]
      exact (hf b hb).1
  done := by
    intro X hP hw hK hc i pins s σ H E I hf st hg
    subst hP hw hK
    obtain ⟨⟨old, he⟩, hit⟩ := st
    obtain ⟨xs, hq, hx⟩ := hg
    have hh : X.A.in1.handled = none := I.ok.hd hc
    obtain ⟨P1, St1, D1, d1, d1', p1⟩ := Src.draws (it := it) hh I hq hia
    obtain ⟨f0, f1, f2, f3, f4, f5⟩ := hf it (by simp)
    have hst := d1 i hit
    rw [hx] at hst
    exact wpAny_pyNext_enum_endD D1 he hst fun h' eb => ⟨rfl, I.turned (t' := s.toks) (fun b o hb q => eb b o hb q) f0 f1 f3 f4 f5⟩
  self := fun A i s Q E st h => let ⟨⟨_, he⟩, _⟩ := st; wpAny_pyIter_enum he h
set_option maxHeartbeats 1000000 in
theorem meets_enum1 {v : Value} {o : Obj} {H : Heap → Prop} (B : Begins v o H) :
    Meets (Builtin.«enumerate.__new__» ⟨[.type "enumerate", v], []⟩) (fun _ R s => H s.heap ∧
      R (.ok (.ret (.ref (s.heap.push o).objs.size))) { s with heap := (s.heap.push o).push { cls := .type "enumerate", data := .fields #[.none, .bool false, .ref s.heap.objs.size, rawInt 0, .none, .none] } }) :=
  .of_wp fun prog w A R s h => by
    obtain ⟨hp, g, d, tk, os⟩ := s; obtain ⟨h1, h⟩ := h
    have hsub := sub_enumerate
    have q1 : ∀ {A' : Around} {E : Value → Shared → Prop} {Q : Value → Shared → Prop}, Q (.ref hp.objs.size) ⟨hp.push o, g, d, tk, os⟩ → wpAny (model prog w) A' (pyIter v) Q E ⟨hp, g, d, tk, os⟩ :=
      fun q => B.iter prog w _ _ ⟨hp, g, d, tk, os⟩ _ h1 q
    wp_walk using q1
    refine wpAny_stack_any fun st => wpAny_pure ?_
    split
    · rename_i c _ _ _ _ _
      cases (c == Value.type "enumerate")
      · wp_walk using q1
        exact ⟨_, rfl, h⟩
      · wp_walk using q1
        exact ⟨_, rfl, h⟩
    · wp_walk using q1
      exact ⟨_, rfl, h⟩
theorem enum_begins1 {prog : Program} {w : World} {A : Around} {E : Value → Shared → Prop} {s : Shared} {v : Value} {o : Obj} {H : Heap → Prop} {Q : Value → Shared → Prop} (B : Begins v o H) (h1 : H s.heap)
    (h : ∀ h', IsEnum h' (s.heap.objs.size + 1) s.heap.objs.size 0 .none → h'.get? s.heap.objs.size = some o → h'.objs.size = s.heap.objs.size + 2 →
      (∀ b o, s.heap.get? b = some o → h'.get? b = some o) → Q (.ref (s.heap.objs.size + 1)) { s with heap := h' }) :
    wpAny (model prog w) A (call (.type "enumerate") [v]) Q E s := by
  refine callType_new PySem.F.called_enumerate (by decide) (PySem.F.typeCall_enumerate_1 _) (PySem.F.newCall_enumerate_1 _) (fun obj => PySem.F.args_object_init_2 obj _) PySem.F.entry_enumerate_new
    (meets_enum1 B) ⟨h1, ?_⟩
  have hz : (s.heap.push o).objs.size = s.heap.objs.size + 1 := Heap.size_push ..
  show _ ∧ _
  rw [hz]
  have he : IsEnum ((s.heap.push o).push { cls := .type "enumerate", data := .fields #[.none, .bool false, .ref s.heap.objs.size, rawInt 0, .none, .none] }) (s.heap.objs.size + 1) s.heap.objs.size 0 .none := by
    have := Heap.get?_push_size (s.heap.push o) (o := { cls := .type "enumerate", data := .fields #[.none, .bool false, .ref s.heap.objs.size, rawInt 0, .none, .none] }) rfl
    rw [hz] at this
    exact this
  refine ⟨⟨_, he, rfl⟩, h _ he (Heap.get?_push_of_some _ (Heap.get?_push_size _ B.free)) (by rw [Heap.size_push, hz]) fun b o e => Heap.get?_push_of_some _ (Heap.get?_push_of_some _ e)⟩
def iEnumS (K : PySem.W.Frag) (ta : TA) : TI := fun σ H R => ta σ H fun vs H1 => ∃ x, vs = [x] ∧ ∀ u1, RelV x u1 → ∃ a xs, u1 = Src.val a ∧ a.at K H1 xs ∧ R (IteS K a) H1
theorem pi_enumS {X : Cx} {e : Expr} {ta : TA} {p pos tpos : Pos} {elts : List Expr} {kk : Nat} (hg : Gl X "enumerate") (hm : X.mg "enumerate" = none) (ha : PA X [e] ta) (hs : starEach [e] X.env = [(false, eval e X.env)] := by rfl) :
    PI X (.Tuple elts kk tpos) (.Call (.Name "enumerate" p) [e] [] pos) (iEnumS X.K ta) := by
  refine ⟨fun pins s σ H R I h => ?_⟩
  refine Call_ (ld_blt I hg hm boot_enumerate (PyProof.Rows.callWith_type1 (thn (ha.run pos pins s σ H _ I h) fun us s1 ⟨vs, H1, I1, r1, q1⟩ => ?_) hs rfl))
  obtain ⟨x, ex, q1⟩ := q1
  subst ex
  obtain ⟨u1, rfl, rx⟩ := Vals.one r1
  obtain ⟨a, xs, rfl, hqx, q⟩ := q1 u1 rx
  obtain ⟨Ha, Ba, ka⟩ := Src.begins a
  refine enum_begins1 Ba (ka I1 hqx) fun h' he h1 hsz hk => wpAny_pyIter_enum he ?_
  have I2 : Inv X pins σ H1 { s1 with heap := h' } := I1.kept (t' := s1.toks) hk
  have la := Src.lt I1 hqx
  refine ⟨s1.heap.objs.size + 1, [s1.heap.objs.size + 1, s1.heap.objs.size], _, _, H1, rfl, I2, turn_enumS (Nat.succ_ne_self _) (fun z => absurd (la _ z) (Nat.not_lt.mpr (Nat.le_succ _))) (fun c hc => Nat.ne_of_lt (la c hc)), ⟨⟨.none, he⟩, Src.it_new h1⟩, fun b hb => ?_, q⟩
  have e' : b = s1.heap.objs.size + 1 ∨ b = s1.heap.objs.size := by simpa using hb
  have hle : s1.heap.objs.size ≤ b := by
    rcases e' with z | z
    · rw [z]; exact Nat.le_add_right _ _
    · rw [z]; exact Nat.le_refl _
  exact I1.fpOk hle (I1.hok.fresh hle)

/-! ### over data -/
/-- the items that a source gives, and what must stand -/
def rowIt (m : Mu) : D → Option DIt
  | .str z => some ⟨z.cps.toList.map fun c => D.str ⟨#[c]⟩, fun _ => True⟩
  | d => seqIt m d
theorem rep_signs {K : PySem.W.Frag} {H : Hp} (z : Str) : Reps K H (z.cps.toList.map fun c => D.str ⟨#[c]⟩) (signs z) := by
  unfold signs
  induction z.cps.toList with
  | nil => exact Reps.nil
  | cons c r ih => exact Reps.cons (Rep.str_.mpr rfl) ih
/-- a row as a source: its invariant -/
theorem rowIt_src {K : PySem.W.Frag} {H : Hp} {m : Mu} {d : D} {v : V} {it : DIt} {u : Value} (M : RepM K H m) (r : Rep K H d v) (h : rowIt m d = some it) (ru : RelV v u) :
    ∃ (src : Src) (inv : Hp → Mu → Prop), u = src.val ∧ inv H m ∧ (∀ H m H' m', Step K H m H' m' → inv H m → inv H' m') ∧ (it.guard m) ∧ ∀ H m, RepM K H m → inv H m → it.guard m → ∃ xs, src.at K H xs ∧ Reps K H it.items xs := by
  unfold rowIt at h
  split at h
  · rename_i z
    cases h
    obtain rfl := Rep.str_.mp r
    obtain ⟨t, rfl⟩ := ru
    exact ⟨.txt z t, fun _ _ => True, rfl, trivial, fun _ _ _ _ _ _ => trivial, trivial, fun H m M _ _ => ⟨signs z, rfl, rep_signs z⟩⟩
  · unfold seqIt at h
    split at h
    · cases h
      rename_i ds _
      obtain ⟨a, xs, rfl, hx, rx⟩ := Rep.tup_.mp r
      obtain rfl : u = Value.ref a := ru
      exact ⟨.tup a, fun H m => SqT K H a xs ∧ Reps K H ds xs, rfl, ⟨hx, rx⟩, fun H m H' m' st z => ⟨st.keep.t _ _ z.1, z.2.keep st.keep⟩, trivial, fun H m M hv _ => ⟨xs, hv⟩⟩
    · cases h
      rename_i ds _
      unfold Rep at r
      obtain ⟨a, xs, rfl, hx, rx⟩ := r
      obtain rfl : u = Value.ref a := ru
      exact ⟨.lst a, fun H m => RoL K H a xs ∧ Reps K H ds xs, rfl, ⟨hx, rx⟩, fun H m H' m' st z => ⟨st.keep.l _ _ z.1, z.2.keep st.keep⟩, trivial, fun H m M hv _ => ⟨xs, hv.1.sq, hv.2⟩⟩
    · rename_i a _
      split at h
      · cases h
        rename_i ds e
        obtain rfl := Rep.ref_.mp r
        obtain rfl : u = Value.ref a := ru
        refine ⟨.lst a, fun H m => True, rfl, trivial, fun _ _ _ _ _ _ => trivial, e, fun H m M _ hG => ?_⟩
        obtain ⟨xs, hx, rx⟩ := M a _ hG
        exact ⟨xs, SqL.of hx, rx⟩
      · cases h
    · cases h
def zipItems : List D → List D → List D
  | x :: xs, y :: ys => .tup [x, y] :: zipItems xs ys
  | _, _ => []
theorem zipItems_length : ∀ (xs ys : List D), (zipItems xs ys).length = min xs.length ys.length
  | [], ys => by simp [zipItems]
  | x :: xs, [] => by simp [zipItems]
  | x :: xs, y :: ys => by simp [zipItems, zipItems_length xs ys]
theorem zipItems_get : ∀ (xs ys : List D) (i : Nat) (x y : D), xs[i]? = some x → ys[i]? = some y → (zipItems xs ys)[i]? = some (.tup [x, y])
  | [], ys, i, x, y, h, _ => by simp at h
  | x :: xs, [], i, _, _, _, h => by simp at h
  | x :: xs, y :: ys, 0, a, b, h, h' => by simp at h h'; subst h; subst h'; rfl
  | x :: xs, y :: ys, i + 1, a, b, h, h' => by
    simp only [zipItems, List.getElem?_cons_succ]
    exact zipItems_get xs ys i a b (by simpa using h) (by simpa using h')
def iZip' (ta tb : DTE) : DTI := fun r m R => ta r m fun x m1 => tb r m1 fun y m2 => match rowIt m2 x with
  | some a => match rowIt m2 y with
    | some b => R ⟨zipItems a.items b.items, fun m => a.guard m ∧ b.guard m⟩ m2
    | none => False
  | none => False
theorem rep_pair {K : PySem.W.Frag} {H : Hp} {m : Mu} {T : Addr} {d e : D} {x y : V} (M : RepM K H m) (hT : H T = none) (r1 : Rep K H d x) (r2 : Rep K H e y) :
    Step K H m (upd H T (.tup [x, y])) m ∧ RepM K (upd H T (.tup [x, y])) m ∧ Rep K (upd H T (.tup [x, y])) (.tup [d, e]) (.ref T) :=
  ⟨Step.new hT, M.new hT, Rep.tup_.mpr ⟨T, _, rfl, upd_same, (Reps.cons r1 (Reps.one r2)).keep (Keep.new hT)⟩⟩
section
variable {X : Cx} {tg iter : Expr} {pos : Pos}
theorem di_zip {a b : Expr} {ta tb : DTE} {p tpos : Pos} {elts : List Expr} {kk : Nat} (hg : Gl X "zip") (hm : X.mg "zip" = none) (ha : DE X a ta) (hb : DE X b tb)
    (hs : starEach [a, b] X.env = (false, eval a X.env) :: starEach [b] X.env := by rfl) (hs2 : starEach [b] X.env = (false, eval b X.env) :: starEach [] X.env := by rfl) (hpl : (backTo pos (starEach [b] X.env)).any (·.1) = false := by rfl) :
    DI X (.Tuple elts kk tpos) (.Call (.Name "zip" p) [a, b] [] pos) (iZip' ta tb) :=
  ⟨(pi_zipS hg hm (pa_cons ha.p (pa_cons hb.p pa_nil hs2) hs) hs hpl).of fun s H R ⟨r, m, RR, hs, M, h, q⟩ => ⟨r, m, _, hs, M, h, fun x m1 v H1 h1 s1 M1 q1 => ⟨r, m1, _, hs.keep s1.keep, M1, h1, fun y m2 w H2 h2 s2 M2 q2 => by
    refine ⟨v, w, rfl, fun u1 u2 e1 e2 => ?_⟩
    split at h2
    · rename_i ia ea
      split at h2
      · rename_i ib eb
        obtain ⟨sa, inva, rfl, a0, as, ag, aq⟩ := rowIt_src M2 (q1.keep s2.keep) ea e1
        obtain ⟨sb, invb, rfl, b0, bs, bg, bq⟩ := rowIt_src M2 q2 eb e2
        obtain ⟨xs, hx, rx⟩ := aq H2 m2 M2 a0 ag
        obtain ⟨ys, hy, ry⟩ := bq H2 m2 M2 b0 bg
        refine ⟨sa, sb, xs, ys, rfl, rfl, hx, hy, q _ _ _ _ (fun H m => inva H m ∧ invb H m) h2 (s1.trans s2) M2 ⟨⟨a0, b0⟩, fun H m H' m' st z => ⟨as _ _ _ _ st z.1, bs _ _ _ _ st z.2⟩, fun i H m M hv hG hi => ?_, fun H m M hv hG => ?_, fun i H m x H' M hv hG hi y => ?_⟩⟩
        · obtain ⟨xs, hx, rx⟩ := aq H m M hv.1 hG.1
          obtain ⟨ys, hy, ry⟩ := bq H m M hv.2 hG.2
          have hi' : i < min ia.items.length ib.items.length := by rw [← zipItems_length]; exact hi
          exact ⟨xs, ys, hx, hy, by rw [← rx.length]; omega, by rw [← ry.length]; omega⟩
        · obtain ⟨xs, hx, rx⟩ := aq H m M hv.1 hG.1
          obtain ⟨ys, hy, ry⟩ := bq H m M hv.2 hG.2
          exact ⟨xs, ys, hx, hy, by rw [zipItems_length, rx.length, ry.length]⟩
        · obtain ⟨xs, hx, rx⟩ := aq H m M hv.1 hG.1
          obtain ⟨ys, hy, ry⟩ := bq H m M hv.2 hG.2
          obtain ⟨T, x1, x2, rfl, hT, rfl, f1, f2⟩ := y
          obtain ⟨d1, e1, r1⟩ := rx.get' (f1 xs hx)
          obtain ⟨d2, e2, r2⟩ := ry.get' (f2 ys hy)
          exact ⟨.tup [d1, d2], zipItems_get _ _ _ _ _ e1 e2, rep_pair M hT r1 r2⟩
      · exact h2.elim
    · exact h2.elim⟩⟩⟩
def enumItems (ds : List D) (k : Nat) : List D := match ds with
  | [] => []
  | d :: r => .tup [.int (k : Nat), d] :: enumItems r (k + 1)
theorem enumItems_length : ∀ (ds : List D) (k : Nat), (enumItems ds k).length = ds.length
  | [], k => rfl
  | d :: r, k => by simp [enumItems, enumItems_length r]
theorem enumItems_get : ∀ (ds : List D) (k i : Nat) (d : D), ds[i]? = some d → (enumItems ds k)[i]? = some (.tup [.int ((k + i : Nat) : Int), d])
  | [], k, i, d, h => by simp at h
  | c :: r, k, 0, d, h => by simp at h; subst h; rfl
  | c :: r, k, i + 1, d, h => by
    simp only [enumItems, List.getElem?_cons_succ]
    rw [enumItems_get r (k + 1) i d (by simpa using h), show k + 1 + i = k + (i + 1) by omega]
def iEnum' (ta : DTE) : DTI := fun r m R => ta r m fun x m1 => match rowIt m1 x with
  | some a => R ⟨enumItems a.items 0, a.guard⟩ m1
  | none => False
theorem di_enum {a : Expr} {ta : DTE} {p tpos : Pos} {elts : List Expr} {kk : Nat} (hg : Gl X "enumerate") (hm : X.mg "enumerate" = none) (ha : DE X a ta) (hs : starEach [a] X.env = [(false, eval a X.env)] := by rfl) :
    DI X (.Tuple elts kk tpos) (.Call (.Name "enumerate" p) [a] [] pos) (iEnum' ta) :=
  ⟨(pi_enumS hg hm (pa_cons ha.p pa_nil hs) hs).of fun s H R ⟨r, m, RR, hs, M, h, q⟩ => ⟨r, m, _, hs, M, h, fun x m1 v H1 h1 s1 M1 q1 => by
    refine ⟨v, rfl, fun u1 e1 => ?_⟩
    split at h1
    · rename_i ia ea
      obtain ⟨sa, inva, rfl, a0, as, ag, aq⟩ := rowIt_src M1 q1 ea e1
      obtain ⟨xs, hx, rx⟩ := aq H1 m1 M1 a0 ag
      refine ⟨sa, xs, rfl, hx, q _ _ _ _ inva h1 s1 M1 ⟨a0, as, fun i H m M hv hG hi => ?_, fun H m M hv hG => ?_, fun i H m x H' M hv hG hi y => ?_⟩⟩
      · obtain ⟨xs, hx, rx⟩ := aq H m M hv hG
        have hi' : i < ia.items.length := by rw [← enumItems_length ia.items 0]; exact hi
        exact ⟨xs, hx, by rw [← rx.length]; exact hi'⟩
      · obtain ⟨xs, hx, rx⟩ := aq H m M hv hG
        exact ⟨xs, hx, by rw [enumItems_length, rx.length]⟩
      · obtain ⟨xs, hx, rx⟩ := aq H m M hv hG
        obtain ⟨T, x1, rfl, hT, rfl, f1⟩ := y
        obtain ⟨d1, e1, r1⟩ := rx.get' (f1 xs hx)
        refine ⟨.tup [.int (i : Nat), d1], ?_, rep_pair M hT (Rep.int_.mpr rfl) r1⟩
        have := enumItems_get ia.items 0 i d1 e1
        rw [Nat.zero_add] at this
        exact this
    · exact h1.elim⟩⟩
/-- a text, sign by sign -/
def iStr' (te : DTE) : DTI := fun r m R => te r m fun x m1 => match x with
  | .str z => R ⟨z.cps.toList.map fun c => D.str ⟨#[c]⟩, fun _ => True⟩ m1
  | _ => False
theorem di_str {l : Expr} {te : DTE} (hl : DE X l te) : DI X tg l (iStr' te) :=
  ⟨(pi_str hl.p).of fun s H R ⟨r, m, RR, hs, M, h, q⟩ => ⟨r, m, _, hs, M, h, fun x m1 v H1 h1 s1 M1 q1 => by
    split at h1
    · rename_i z
      obtain rfl := Rep.str_.mp q1
      refine ⟨z, rfl, q _ _ _ _ (fun _ _ => True) h1 s1 M1 ⟨trivial, fun _ _ _ _ _ _ => trivial, fun i H m M hv hG hi => ?_, fun H m M hv hG => ?_, fun i H m x H' M hv hG hi y => ?_⟩⟩
      · show i < z.cps.size
        simpa using hi
      · show z.cps.size ≤ _
        simp
      · obtain ⟨rfl, c, ec, rfl⟩ := y
        exact ⟨.str ⟨#[c]⟩, by simp [ec], Step.refl _ _ m, M, Rep.str_.mpr rfl⟩
    · exact h1.elim⟩⟩
end
end DL

namespace DL
open PySem PySem.Spec PyProof.Rows L2

/-! ### slices -/
abbrev DTO := DSt → Mu → (Option Int → Mu → Prop) → Prop
def lO (K : PySem.W.Frag) (t : DTO) : TO := fun s H Q => ∃ r m R, RepS K H r s ∧ RepM K H m ∧ t r m R ∧ ∀ o m' H', R o m' → Step K H m H' m' → RepM K H' m' → Q o H'
structure DO' (X : Cx) (e : Option Expr) (t : DTO) : Prop where
  p : PO X e (lO X.K t)
theorem _root_.L2.PO.of {X : Cx} {e : Option Expr} {t t' : TO} (h : PO X e t') (i : ∀ s H Q, t s H Q → t' s H Q) : PO X e t := ⟨fun pins s σ H Q I q => h.run pins s σ H Q I (i _ _ _ q)⟩
section
variable {X : Cx} {a b c e o : Expr} {es : List Expr} {ta tb tc te to : DTE} {t u : DTA} {lo hi : Option Expr} {tl th : DTO} {pos p p2 : Pos} {k : Nat}
def oNone : DTO := fun _ m R => R none m
def oSome (te : DTE) : DTO := fun r m R => te r m fun x m1 => match x with
  | .int i => R (some i) m1
  | _ => False
theorem do_none : DO' X none oNone := ⟨po_none.of fun s H Q ⟨r, m, R, hs, M, h, q⟩ => q _ _ _ h (Step.refl _ H m) M⟩
theorem do_some (h : DE X e te) : DO' X (some e) (oSome te) := ⟨(po_some h.p).of fun s H Q ⟨r, m, R, hs, M, h, q⟩ => ⟨r, m, _, hs, M, h, fun x m1 v H1 h1 s1 M1 q1 => by
  split at h1
  · rename_i i
    exact ⟨i, Rep.int_.mp q1, q _ _ _ h1 s1 M1⟩
  · exact h1.elim⟩⟩
def cutD (xs : List D) (lo hi : Option Int) : List D := (xs.drop (HT.sIx xs.length 0 lo)).take (HT.sIx xs.length xs.length hi - HT.sIx xs.length 0 lo)
theorem Reps.cut {K : PySem.W.Frag} {H : Hp} {ds : List D} {vs : List V} (h : Reps K H ds vs) (lo hi : Option Int) : Reps K H (cutD ds lo hi) (cutV vs lo hi) := by
  unfold cutD cutV
  rw [h.length]
  exact (h.drop _).take _
/-- a slice: of a text, of a tuple; of a list a new list -/
def gCut (lo hi : Option Int) : D → Mu → DK → Prop := fun x m R => match x with
  | .str z => z.length ≤ sizeLine ∧ R (.str (cutS z lo hi)) m
  | .tup ds => R (.tup (cutD ds lo hi)) m
  | x => match seqOf m x with
    | some ds => ∀ a, m a = none → R (.ref a) (mput m a (.lst (cutD ds lo hi)))
    | none => False
def dCut (te : DTE) (tl th : DTO) : DTE := fun r m R => te r m fun x m1 => tl r m1 fun l m2 => th r m2 fun u m3 => gCut l u x m3 R
theorem seqOf_list {K : PySem.W.Frag} {H : Hp} {m : Mu} {x : D} {v : V} {ds : List D} (M : RepM K H m) (r : Rep K H x v) (h : seqOf m x = some ds) (ht : ∀ ds, x ≠ .tup ds) : ∃ a xs, v = .ref a ∧ SqL K H a xs ∧ Reps K H ds xs := by
  unfold seqOf at h
  split at h
  · exact absurd rfl (ht _)
  · cases h
    unfold Rep at r
    obtain ⟨p, xs, e, q, r⟩ := r
    exact ⟨p, xs, e, q.sq, r⟩
  · split at h
    · cases h
      rename_i e
      obtain ⟨xs, hx, rx⟩ := M _ _ e
      exact ⟨_, xs, Rep.ref_.mp r, SqL.of hx, rx⟩
    · cases h
  · cases h
theorem de_cut (he : DE X e te) (hl : DO' X lo tl) (hu : DO' X hi th) : DE X (.Subscript e (.Slice lo hi none p2) pos) (dCut te tl th) :=
  ⟨(pe_slice (sl_list.or (sl_tupA.or sl_str)) he.p hl.p hu.p).of fun s H Q ⟨r, m, R, hs, M, h, q⟩ => ⟨r, m, _, hs, M, h, fun x m1 v H1 h1 s1 M1 q1 => ⟨r, m1, _, hs.keep s1.keep, M1, h1, fun l m2 H2 h2 s2 M2 => ⟨r, m2, _, hs.keep (s1.trans s2).keep, M2, h2, fun u m3 H3 h3 s3 M3 => by
    have st := (s1.trans s2).trans s3
    have r3 := q1.keep (s2.trans s3).keep
    unfold gCut at h3
    split at h3
    · rename_i z
      obtain rfl := Rep.str_.mp r3
      exact .inr (.inr ⟨z, rfl, h3.1, q _ _ _ _ h3.2 st M3 (Rep.str_.mpr rfl)⟩)
    · rename_i ds
      obtain ⟨a, xs, rfl, hn, rx⟩ := Rep.tup0.mp r3
      have hx : SqT X.K H3 a xs := SqT.of hn
      refine .inr (.inl ⟨a, xs, rfl, hx, fun w => ?_, fun w p hp => q _ _ _ _ h3 (st.trans (Step.new hp)) (M3.new hp) (Rep.tup_.mpr ⟨p, _, rfl, upd_same, (rx.cut l u).keep (Keep.new hp)⟩)⟩)
      refine q _ _ _ _ h3 st M3 (Rep.tup_.mpr ⟨a, xs, rfl, hn, ?_⟩)
      have e : cutV xs l u = xs := by
        unfold cutV
        rw [w.1, w.2]
        simp
      have := rx.cut l u
      rw [e] at this
      exact this
    · rename_i hn1 hn2
      split at h3
      · rename_i ds eds
        obtain ⟨a, xs, rfl, hx, rx⟩ := seqOf_list M3 r3 eds (fun ds e => hn2 ds e)
        exact .inl ⟨a, xs, rfl, hx, fun p hp => q _ _ _ _ (h3 p (M3.free hp)) (st.trans (Step.newM hp)) (M3.newM hp ⟨_, upd_same, (rx.cut l u).keep (Keep.new hp)⟩) (Rep.ref_.mpr rfl)⟩
      · exact h3.elim⟩⟩⟩⟩
/-- a slice of a list, as a new list -/
def nCut (te : DTE) (tl th : DTO) : DTA := fun r m R => te r m fun x m1 => tl r m1 fun l m2 => th r m2 fun u m3 => match x with
  | .tup _ => False
  | x => match seqOf m3 x with
    | some ds => R (cutD ds l u) m3
    | none => False
theorem dn_cut (he : DE X e te) (hl : DO' X lo tl) (hu : DO' X hi th) : DN X (.Subscript e (.Slice lo hi none p2) pos) (nCut te tl th) :=
  ⟨(pe_slice sl_list he.p hl.p hu.p).of fun s H Q ⟨r, m, R, hs, M, h, q⟩ => ⟨r, m, _, hs, M, h, fun x m1 v H1 h1 s1 M1 q1 => ⟨r, m1, _, hs.keep s1.keep, M1, h1, fun l m2 H2 h2 s2 M2 => ⟨r, m2, _, hs.keep (s1.trans s2).keep, M2, h2, fun u m3 H3 h3 s3 M3 => by
    have st := (s1.trans s2).trans s3
    have r3 := q1.keep (s2.trans s3).keep
    split at h3
    · exact h3.elim
    · rename_i hn2
      split at h3
      · rename_i ds eds
        obtain ⟨a, xs, rfl, hx, rx⟩ := seqOf_list M3 r3 eds (fun ds e => hn2 ds e)
        exact ⟨a, xs, rfl, hx, fun p hp => q _ _ _ _ _ h3 (st.trans (Step.new hp)) (M3.new hp) upd_same (M3.free hp) (st.th _ hp) ((rx.cut l u).keep (Keep.new hp))⟩
      · exact h3.elim⟩⟩⟩⟩
/-- a slice of a new list -/
def nCutN (t : DTA) (tl th : DTO) : DTA := fun r m R => t r m fun ds m1 => tl r m1 fun l m2 => th r m2 fun u m3 => R (cutD ds l u) m3
theorem dn_cutN (he : DN X e t) (hl : DO' X lo tl) (hu : DO' X hi th) : DN X (.Subscript e (.Slice lo hi none p2) pos) (nCutN t tl th) :=
  ⟨(pe_slice sl_list he.p hl.p hu.p).of fun s H Q ⟨r, m, R, hs, M, h, q⟩ => ⟨r, m, _, hs, M, h, fun ds m1 a xs H1 h1 s1 M1 ha hm hH rx => ⟨r, m1, _, hs.keep s1.keep, M1, h1, fun l m2 H2 h2 s2 M2 => ⟨r, m2, _, hs.keep (s1.trans s2).keep, M2, h2, fun u m3 H3 h3 s3 M3 => by
    have st := (s1.trans s2).trans s3
    have ha3 := (s2.trans s3).fr _ _ ha hm
    exact ⟨a, xs, rfl, SqL.of ha3, fun p hp => q _ _ _ _ _ h3 (st.trans (Step.new hp)) (M3.new hp) upd_same (M3.free hp) (st.th _ hp) (((rx.keep (s2.trans s3).keep).cut l u).keep (Keep.new hp))⟩⟩⟩⟩⟩
/-- xs[::-1] of a list -/
def nRev (te : DTE) : DTA := fun r m R => te r m fun x m1 => match x with
  | .tup _ => False
  | x => match seqOf m1 x with
    | some ds => R ds.reverse m1
    | none => False
theorem dn_rev {j : Nat} {p1 p3 : Pos} (he : DE X e te) : DN X (.Subscript e (.Slice none none (some (.UnaryOp .USub (.Constant (.int 1) j p1) p2)) p3) pos) (nRev te) :=
  ⟨(pe_revL he.p).of fun s H Q ⟨r, m, R, hs, M, h, q⟩ => ⟨r, m, _, hs, M, h, fun x m1 v H1 h1 s1 M1 q1 => by
    split at h1
    · exact h1.elim
    · rename_i hn2
      split at h1
      · rename_i ds eds
        obtain ⟨a, xs, rfl, hx, rx⟩ := seqOf_list M1 q1 eds (fun ds e => hn2 ds e)
        exact ⟨a, xs, rfl, hx, fun p hp => q _ _ _ _ _ h1 (s1.trans (Step.new hp)) (M1.new hp) upd_same (M1.free hp) (s1.th _ hp) (rx.reverse.keep (Keep.new hp))⟩
      · exact h1.elim⟩⟩
/-! ### lists put together -/
def nCatNN (t u : DTA) : DTA := fun r m R => t r m fun xs m1 => u r m1 fun ys m2 => xs.length + ys.length ≤ sizeLine ∧ R (xs ++ ys) m2
theorem dn_catNN (ha : DN X a t) (hb : DN X b u) : DN X (.BinOp a .Add b pos) (nCatNN t u) :=
  ⟨(pe_op op_cat ha.p hb.p).of fun s H Q ⟨r, m, R, hs, M, h, q⟩ => ⟨r, m, _, hs, M, h, fun xs m1 a vs H1 h1 s1 M1 ha hm hH rx => ⟨r, m1, _, hs.keep s1.keep, M1, h1, fun ys m2 b ws H2 h2 s2 M2 hb hmb hHb ry => by
    have st := s1.trans s2
    have rx2 := rx.keep s2.keep
    exact ⟨a, b, vs, ws, rfl, rfl, s2.fr _ _ ha hm, hb, by rw [← rx.length, ← ry.length]; exact h2.1, fun p hp => q _ _ _ _ _ h2.2 (st.trans (Step.new hp)) (M2.new hp) upd_same (M2.free hp) (st.th _ hp) ((rx2.append ry).keep (Keep.new hp))⟩⟩⟩⟩
/-- a list that is held, and a new one -/
def nCatEN (ta : DTE) (u : DTA) : DTA := fun r m R => ta r m fun x m1 => u r m1 fun ys m2 => match x with
  | .ref a => match m2 a with
    | some (.lst xs) => xs.length + ys.length ≤ sizeLine ∧ R (xs ++ ys) m2
    | _ => False
  | _ => False
theorem dn_catEN (ha : DE X a ta) (hb : DN X b u) : DN X (.BinOp a .Add b pos) (nCatEN ta u) :=
  ⟨(pe_op op_cat ha.p hb.p).of fun s H Q ⟨r, m, R, hs, M, h, q⟩ => ⟨r, m, _, hs, M, h, fun x m1 v H1 h1 s1 M1 q1 => ⟨r, m1, _, hs.keep s1.keep, M1, h1, fun ys m2 b ws H2 h2 s2 M2 hb hmb hHb ry => by
    have st := s1.trans s2
    split at h2
    · rename_i a
      split at h2
      · rename_i xs ex
        obtain rfl := Rep.ref_.mp q1
        obtain ⟨vs, hv, rv⟩ := M2 _ _ ex
        exact ⟨a, b, vs, ws, rfl, rfl, hv, hb, by rw [← rv.length, ← ry.length]; exact h2.1, fun p hp => q _ _ _ _ _ h2.2 (st.trans (Step.new hp)) (M2.new hp) upd_same (M2.free hp) (st.th _ hp) ((rv.append ry).keep (Keep.new hp))⟩
      · exact h2.elim
    · exact h2.elim⟩⟩⟩
/-- a new list so many times -/
def nRep (t : DTA) (tb : DTE) : DTA := fun r m R => t r m fun xs m1 => tb r m1 fun y m2 => match y with
  | .int k => (-(2 ^ 63) ≤ k ∧ k < 2 ^ 63 ∧ xs.length * k.toNat ≤ sizeLine) ∧ R (List.replicate k.toNat xs).flatten m2
  | _ => False
theorem dn_rep (ha : DN X a t) (hb : DE X b tb) : DN X (.BinOp a .Mult b pos) (nRep t tb) :=
  ⟨(pe_op op_rep ha.p hb.p).of fun s H Q ⟨r, m, R, hs, M, h, q⟩ => ⟨r, m, _, hs, M, h, fun xs m1 a vs H1 h1 s1 M1 ha hm hH rx => ⟨r, m1, _, hs.keep s1.keep, M1, h1, fun y m2 w H2 h2 s2 M2 q2 => by
    have st := s1.trans s2
    split at h2
    · rename_i k
      obtain rfl := Rep.int_.mp q2
      exact ⟨a, k, vs, rfl, rfl, s2.fr _ _ ha hm, h2.1.1, h2.1.2.1, by rw [← rx.length]; exact h2.1.2.2, fun p hp => q _ _ _ _ _ h2.2 (st.trans (Step.new hp)) (M2.new hp) upd_same (M2.free hp) (st.th _ hp) (((rx.keep s2.keep).rep _).keep (Keep.new hp))⟩
    · exact h2.elim⟩⟩⟩
/-- an item of a new list -/
def dIxN (t : DTA) (tb : DTE) : DTE := fun r m R => t r m fun xs m1 => tb r m1 fun y m2 => match y with
  | .int i => match atI xs i with
    | some d => R d m2
    | none => False
  | _ => False
theorem de_atN (ha : DN X a t) (hb : DE X b tb) (hs : PlainIx b := by exact fun _ _ => rfl) : DE X (.Subscript a b pos) (dIxN t tb) :=
  ⟨(pe_ix ix_list ha.p hb.p hs).of fun s H Q ⟨r, m, R, hs, M, h, q⟩ => ⟨r, m, _, hs, M, h, fun xs m1 a vs H1 h1 s1 M1 ha hm hH rx => ⟨r, m1, _, hs.keep s1.keep, M1, h1, fun y m2 w H2 h2 s2 M2 q2 => by
    split at h2
    · rename_i i
      obtain rfl := Rep.int_.mp q2
      split at h2
      · rename_i d e
        obtain ⟨v, ev, rv⟩ := atI_rep rx e
        exact ⟨a, vs, i, v, rfl, rfl, SqL.of (s2.fr _ _ ha hm), ev, q _ _ _ _ h2 (s1.trans s2) M2 (rv.keep s2.keep)⟩
      · exact h2.elim
    · exact h2.elim⟩⟩⟩
/-! ### sum, any, all -/
def gSumN : List D → Mu → DK → Prop := fun ds m R => match intsOf ds with
  | some ns => R (.int ns.sum) m
  | none => False
def dN1 (g : List D → Mu → DK → Prop) (t : DTA) : DTE := fun r m R => t r m fun xs m1 => g xs m1 R
theorem de_sumN (hc : X.calm = true) (gl : Gl X "sum") (hm : X.mg "sum" = none) (ha : DN X e t) (he : starEach [e] X.env = (false, eval e X.env) :: starEach [] X.env := by rfl) (hpl : (backTo pos (starEach [] X.env)).any (·.1) = false := by rfl) : DE X (.Call (.Name "sum" p) [e] [] pos) (dN1 gSumN t) :=
  ⟨(pe_callB (cr_sum hc) gl hm (by decide +kernel) (pa_cons ha.p pa_nil he) (by decide) (by decide) he hpl).of fun s H Q ⟨r, m, R, hs, M, h, q⟩ => ⟨r, m, _, hs, M, h, fun ds m1 a xs H1 h1 s1 M1 ha hm hH rx => by
    unfold gSumN at h1
    split at h1
    · rename_i ns en
      rw [intsOf_map en] at rx
      rw [rx.ints] at ha
      exact ⟨a, ns, rfl, SqL.of ha, q _ _ _ _ h1 s1 M1 (Rep.int_.mpr rfl)⟩
    · exact h1.elim⟩⟩
/-- sum of a list that is held -/
def gSum : List D → Mu → DK → Prop := fun ds m R => match ds with
  | [.tup _] => False
  | [d] => match seqOf m d with
    | some xs => gSumN xs m R
    | none => False
  | _ => False
theorem de_sum (hc : X.calm = true) (gl : Gl X "sum") (hm : X.mg "sum" = none) (ha : DA X [e] t) (he : starEach [e] X.env = (false, eval e X.env) :: starEach [] X.env := by rfl) (hpl : (backTo pos (starEach [] X.env)).any (·.1) = false := by rfl) : DE X (.Call (.Name "sum" p) [e] [] pos) (dB gSum t) :=
  de_b (cr_sum hc) (fun H m ds vs R Q M r h q => by
    unfold gSum at h
    split at h
    · exact h.elim
    · rename_i d hn
      split at h
      · rename_i xs ex
        unfold gSumN at h
        split at h
        · rename_i ns en
          obtain ⟨v, rfl, rv⟩ := r.one_
          obtain ⟨a, ys, rfl, hy, ry⟩ := seqOf_list M rv ex (fun ds e => hn ds e)
          rw [intsOf_map en] at ry
          rw [ry.ints] at hy
          exact ⟨a, ns, rfl, hy, q.here h M (Rep.int_.mpr rfl)⟩
        · exact h.elim
      · exact h.elim
    · exact h.elim) gl hm (by decide +kernel) ha (by decide) (by decide) he hpl
def boolsOf : List D → Option (List Bool)
  | [] => some []
  | .bl i :: ds => match boolsOf ds with
    | some is => some (i :: is)
    | none => none
  | _ :: _ => none
theorem Reps.bools {K : PySem.W.Frag} {H : Hp} : ∀ {ds : List D} {bs : List Bool} {vs : List V}, boolsOf ds = some bs → Reps K H ds vs → vs = bs.map V.bl
  | [], bs, vs, h, r => by unfold boolsOf at h; cases h; unfold Reps at r; exact r
  | d :: ds, bs, vs, h, r => by
    unfold boolsOf at h
    split at h
    · rename_i e; cases e
    · rename_i i ds' e
      cases e
      split at h
      · rename_i is e
        cases h
        unfold Reps at r
        obtain ⟨v, w, e2, r1, r2⟩ := r
        obtain rfl := Rep.bl_.mp r1
        rw [e2, Reps.bools e r2]; rfl
      · cases h
    · cases h
def gAllN : List D → Mu → DK → Prop := fun ds m R => match boolsOf ds with
  | some bs => R (.bl (bs.all id)) m
  | none => False
def gAnyN : List D → Mu → DK → Prop := fun ds m R => match boolsOf ds with
  | some bs => R (.bl (bs.any id)) m
  | none => False
theorem de_allN (hc : X.calm = true) (gl : Gl X "all") (hm : X.mg "all" = none) (ha : DN X e t) (he : starEach [e] X.env = (false, eval e X.env) :: starEach [] X.env := by rfl) (hpl : (backTo pos (starEach [] X.env)).any (·.1) = false := by rfl) : DE X (.Call (.Name "all" p) [e] [] pos) (dN1 gAllN t) :=
  ⟨(pe_callB (cr_all hc) gl hm (by decide +kernel) (pa_cons ha.p pa_nil he) (by decide) (by decide) he hpl).of fun s H Q ⟨r, m, R, hs, M, h, q⟩ => ⟨r, m, _, hs, M, h, fun ds m1 a xs H1 h1 s1 M1 ha hm hH rx => by
    unfold gAllN at h1
    split at h1
    · rename_i bs en
      rw [rx.bools en] at ha
      exact ⟨a, bs, rfl, SqL.of ha, q _ _ _ _ h1 s1 M1 (Rep.bl_.mpr rfl)⟩
    · exact h1.elim⟩⟩
theorem de_anyN (hc : X.calm = true) (gl : Gl X "any") (hm : X.mg "any" = none) (ha : DN X e t) (he : starEach [e] X.env = (false, eval e X.env) :: starEach [] X.env := by rfl) (hpl : (backTo pos (starEach [] X.env)).any (·.1) = false := by rfl) : DE X (.Call (.Name "any" p) [e] [] pos) (dN1 gAnyN t) :=
  ⟨(pe_callB (cr_any hc) gl hm (by decide +kernel) (pa_cons ha.p pa_nil he) (by decide) (by decide) he hpl).of fun s H Q ⟨r, m, R, hs, M, h, q⟩ => ⟨r, m, _, hs, M, h, fun ds m1 a xs H1 h1 s1 M1 ha hm hH rx => by
    unfold gAnyN at h1
    split at h1
    · rename_i bs en
      rw [rx.bools en] at ha
      exact ⟨a, bs, rfl, SqL.of ha, q _ _ _ _ h1 s1 M1 (Rep.bl_.mpr rfl)⟩
    · exact h1.elim⟩⟩
/-! ### isinstance of a built-in class -/
def tyName (m : Mu) : D → Option String
  | .non => some "NoneType"
  | .bl _ => some "bool"
  | .int _ => some "int"
  | .str _ => some "str"
  | .tup _ => some "tuple"
  | .rl _ => some "list"
  | .ref a => match m a with
    | some (.lst _) => some "list"
    | some (.dK _) => some "dict"
    | some (.dT _) => some "dict"
    | _ => none
  | .ty _ => none
theorem tyName_ty {K : PySem.W.Frag} {H : Hp} {m : Mu} {d : D} {v : V} {T : String} (M : RepM K H m) (r : Rep K H d v) (h : tyName m d = some T) : TyX K H v (.type T) := by
  unfold tyName at h
  split at h
  · cases h; obtain rfl := Rep.non_.mp r; exact .base .non
  · cases h; obtain rfl := Rep.bl_.mp r; exact .base (.bl _)
  · cases h; obtain rfl := Rep.int_.mp r; exact .base (.int _)
  · cases h; obtain rfl := Rep.str_.mp r; exact .base (.str _)
  · cases h
    obtain ⟨a, xs, rfl, hx, _⟩ := Rep.tup_.mp r
    rcases hx with (hx | ⟨o, hx⟩) | ⟨o, its, n, hk, hc, _⟩
    · exact .base (.tup hx)
    · exact .fTuple hx
    · exact .kTuple hk hc
  · cases h
    unfold Rep at r
    obtain ⟨a, xs, rfl, hx, _⟩ := r
    rcases hx with ⟨o, hx⟩ | ⟨o, its, n, hk, hc, _⟩
    · exact .base (.frz hx)
    · exact .kList hk hc
  · rename_i a
    obtain rfl := Rep.ref_.mp r
    split at h
    · rename_i e; cases h; obtain ⟨xs, hx, _⟩ := M _ _ e; exact .base (.lst hx)
    · rename_i e; cases h; obtain ⟨xs, hx, _⟩ := M _ _ e; exact .base (.dK hx)
    · rename_i e; cases h; obtain ⟨xs, hx, _⟩ := M _ _ e; exact .base (.dT hx)
    · cases h
  · cases h
def gIsi (c : String) : D → Mu → DK → Prop := fun x m R => match tyName m x with
  | some T => match kitB T c with
    | some b => R (.bl b) m
    | none => False
  | none => False
/-- isinstance(x, c) -/
theorem de_isi {cn : Str} {c : String} {p3 : Pos} (gl : Gl X "isinstance") (hm : X.mg "isinstance" = none) (ha : DE X a ta) (gc : Gl X cn) (hc : X.mg cn = none) (hv : bootBuiltins cn = some (.type c)) (hn : cn ≠ "__name__" := by decide) (hd : (cn == ("__debug__" : Str)) = false := by decide)
    (he : starEach [a, .Name cn p3] X.env = (false, eval a X.env) :: starEach [.Name cn p3] X.env := by rfl) (he2 : starEach [.Name cn p3] X.env = (false, eval (.Name cn p3) X.env) :: starEach [] X.env := by rfl) (hpl : (backTo pos (starEach [.Name cn p3] X.env)).any (·.1) = false := by rfl) :
    DE X (.Call (.Name "isinstance" p) [a, .Name cn p3] [] pos) (d1 (gIsi c) ta) :=
  ⟨(pe_callB call_isi gl hm (by decide +kernel) (pa_cons ha.p (pa_cons (pe_bltn (v := .ty c) gc hc hv rfl hn hd) pa_nil he2) he) (by decide) (by decide) he hpl).of fun s H Q ⟨r, m, R, hs, M, h, q⟩ => ⟨r, m, _, hs, M, h, fun x m1 v H1 h1 s1 M1 q1 => by
    unfold gIsi at h1
    split at h1
    · rename_i T eT
      split at h1
      · rename_i b eb
        exact ⟨v, .ty c, .type T, .type c, b, rfl, .ty c, tyName_ty M1 q1 eT, kit_ty eb, q _ _ _ _ h1 s1 M1 (Rep.bl_.mpr rfl)⟩
      · exact h1.elim
    · exact h1.elim⟩⟩
/-! ### chains, xs.index -/
def dChain (g g' : G2) (ta tb tc : DTE) : DTE := fun r m R => ta r m fun x m1 => tb r m1 fun y m2 => g x y m2 fun z m3 => match z with
  | .bl k => if k = true then tc r m3 fun w m4 => g' y w m4 R else R (.bl false) m3
  | _ => False
def gIndex : D → List D → Mu → DK → Prop := fun x ds m R => match x, ds with
  | .ref a, [d] => match m a with
    | some (.lst xs) => match py m deep d with
      | some p => match pyAll (py m deep) xs with
        | some ps => match ps.findIdx? (fun z => PyData.eqv z p) with
          | some j => R (.int (j : Nat)) m
          | none => False
        | none => False
      | none => False
    | _ => False
  | _, _ => False
theorem de_index {apos cpos : Pos} (hr : Room k X.A) (ho : DE X o to) (ha : DA X [e] t) (hbase : attributeBase o "index" X.env (eval o X.env) = eval o X.env := by rfl)
    (hfew : ((backTo cpos (starEach [e] X.env)).all (fun x => !x.1) && (backToKw cpos (keywordEach [] X.env)).all (fun x => x.1.isSome)
      && decide ([e].length + ([] : List Keyword).length + (if ([] : List Keyword).isEmpty then 0 else 1) < 30)) = true := by rfl)
    (hline : (apos.endLine == cpos.line) = true := by rfl) (hs : starEach [e] X.env = (false, eval e X.env) :: starEach [] X.env := by rfl) (hplain : (backTo cpos (starEach [] X.env)).any (·.1) = false := by rfl) :
    DE X (.Call (.Attribute o "index" apos) [e] [] cpos) (dM gIndex to t) :=
  de_m PySem.F.slot_list_index PySem.F.type_list_index (mt_indexD (Room.units65 hr)) (fun H m d ds v vs R Q M rd rds h q => by
    unfold gIndex at h
    split at h
    · rename_i a c
      split at h
      · rename_i xs ex
        split at h
        · rename_i p0 ep
          split at h
          · rename_i ps eps
            split at h
            · rename_i j ej
              obtain rfl := Rep.ref_.mp rd
              obtain ⟨y, rfl, ry⟩ := rds.one_
              obtain ⟨zs, hz, rz⟩ := M _ _ ex
              have hd := pyAll_dp (py_dp M deep) eps rz
              obtain ⟨hj, h1, h2⟩ := List.findIdx?_eq_some_iff_getElem.mp ej
              refine ⟨a, y, p0, ps, j, ps[j], rfl, rfl, .lst (SqL.of hz) hd, py_dp M _ _ _ _ ep ry, list_shaped eps, py_shaped ep (by decide), List.getElem?_eq_getElem hj, h1, fun n z' hn hz' => ?_, q.here h M (Rep.int_.mpr rfl)⟩
              have hn' : n < ps.length := by omega
              rw [List.getElem?_eq_getElem hn'] at hz'
              have e' : ps[n] = z' := Option.some.inj hz'
              have := h2 n hn
              rw [e'] at this
              simpa using this
            · exact h.elim
          · exact h.elim
        · exact h.elim
      · exact h.elim
    · exact h.elim) ho ha hbase hfew hline hs hplain
end
end DL

namespace DL
open PySem PySem.Spec PyProof.Rows L2

/-! ### chains -/
section
variable {X : Cx} {a b c e o : Expr} {es : List Expr} {ta tb tc te to : DTE} {t u : DTA} {pos p p2 : Pos} {k : Nat}
theorem lChain {r r' : R2} {g g' : G2} {K : PySem.W.Frag} (hg : Lift2 K r g) (hg' : Lift2 K r' g') : ∀ s H Q, lE K (dChain g g' ta tb tc) s H Q → tChain r r' (lE K ta) (lE K tb) (lE K tc) s H Q := fun s H Q ⟨ρ, m, R, hs, M, h, q⟩ =>
  ⟨ρ, m, _, hs, M, h, fun x m1 v H1 h1 s1 M1 q1 => ⟨ρ, m1, _, hs.keep s1.keep, M1, h1, fun y m2 w H2 h2 s2 M2 q2 => hg H2 m2 x y v w _ _ M2 (q1.keep s2.keep) q2 h2 fun z m3 u H3 h3 s3 M3 q3 => by
    split at h3
    · rename_i k
      refine ⟨k, Rep.bl_.mp q3, ?_⟩
      cases k with
      | true => exact ⟨ρ, m3, _, hs.keep ((s1.trans s2).trans s3).keep, M3, h3, fun w' m4 v4 H4 h4 s4 M4 q4 => hg' H4 m4 y w' w v4 R Q M4 (q2.keep (s3.trans s4).keep) q4 h4 (q.step (((s1.trans s2).trans s3).trans s4))⟩
      | false => exact q _ _ _ _ h3 ((s1.trans s2).trans s3) M3 (Rep.bl_.mpr rfl)
    · exact h3.elim⟩⟩
theorem de_chain {op op' : CmpOp} {r r' : R2} {g g' : G2} (ho : OpR X (compareOp op) r) (ho' : OpR X (compareOp op') r') (hg : Lift2 X.K r g) (hg' : Lift2 X.K r' g') (ha : DE X a ta) (hb : DE X b tb) (hc : DE X c tc)
    (hm : lastMarks [op, op'] [b, c] = false := by rfl) : DE X (.Compare a [op, op'] [b, c] pos) (dChain g g' ta tb tc) := ⟨(pe_chain ho ho' ha.p hb.p hc.p hm).of (lChain hg hg')⟩
theorem dt_chain {op op' : CmpOp} {r r' : R2} {g g' : G2} (ho : OpR X (compareOp op) r) (ho' : OpR X (compareOp op') r') (hg : Lift2 X.K r g) (hg' : Lift2 X.K r' g') (ha : DE X a ta) (hb : DE X b tb) (hc : DE X c tc)
    (hm : lastMarks [op, op'] [b, c] = false := by rfl) : DT X (.Compare a [op, op'] [b, c] pos) (tBool (dChain g g' ta tb tc)) :=
  ⟨(pt_chain ho ho' ha.p hb.p hc.p hm).of fun s H Q ⟨ρ, m, R, hs, M, h, q⟩ => by
    refine lChain hg hg' s H _ ⟨ρ, m, _, hs, M, h, fun x m1 v H1 h1 s1 M1 q1 => ?_⟩
    split at h1
    · rename_i c
      exact ⟨c, Rep.bl_.mp q1, q _ _ _ h1 s1 M1⟩
    · exact h1.elim⟩

/-! ### a row of any kind, walked -/
def iRowV (K : PySem.W.Frag) (tl : TE) : TI := fun σ H R => tl σ H fun x H1 => ((∃ a, x = .ref a ∧ (∃ xs, SqL K H1 a xs) ∧ R (Itl K a) H1) ∨ ∃ a, x = .ref a ∧ (∃ xs, SqT K H1 a xs) ∧ R (Itt K a) H1) ∨ ∃ z, x = .str z ∧ R (Its z) H1
theorem pi_row {tg l : Expr} {tl : TE} (hl : PE X l tl) : PI X tg l (iRowV X.K tl) := by
  refine ⟨fun pins s σ H R I h => ?_⟩
  refine thn (hl.run pins s σ H _ I h) fun v s1 ⟨x, H1, I1, r1, q1⟩ => ?_
  rcases q1 with (⟨a, e, ⟨xs, hq⟩, q⟩ | ⟨a, e, ⟨xs, hq⟩, q⟩) | ⟨z, e, q⟩
  · subst e
    cases r1
    obtain ⟨its, rv, p, hz⟩ := I1.list hq
    refine wpAny_pyIter_list p.isList ?_
    refine ⟨s1.heap.objs.size, [s1.heap.objs.size], _, _, H1, rfl, I1.kept (t' := s1.toks) fun b o e => Heap.get?_push_of_some _ e, turn_list a _, ⟨_, Heap.get?_push_size _ rfl, rfl, rfl⟩, fun b hb => ?_, q⟩
    have e : b = s1.heap.objs.size := by simpa using hb
    subst e
    exact I1.fpOk (Nat.le_refl _) (I1.hok.fresh (Nat.le_refl _))
  · subst e
    cases r1
    obtain ⟨its, rv, p, hz⟩ := I1.tuple hq
    refine wpAny_pyIter_tuple (show s1.heap.IsTuple a its.toArray from p) ?_
    refine ⟨s1.heap.objs.size, [s1.heap.objs.size], _, _, H1, rfl, I1.kept (t' := s1.toks) fun b o e => Heap.get?_push_of_some _ e, turn_tuple a _, ⟨_, Heap.get?_push_size _ rfl, rfl, rfl⟩, fun b hb => ?_, q⟩
    have e : b = s1.heap.objs.size := by simpa using hb
    subst e
    exact I1.fpOk (Nat.le_refl _) (I1.hok.fresh (Nat.le_refl _))
  · subst e
    obtain ⟨t, rfl⟩ := r1
    refine wpAny_pyIter_strU ?_
    refine ⟨s1.heap.objs.size, [s1.heap.objs.size], _, _, H1, rfl, I1.kept (t' := s1.toks) fun b o e => Heap.get?_push_of_some _ e, turn_str s1.heap.objs.size z t (strIterType z) (by unfold strIterType; split <;> simp), ⟨_, Heap.get?_push_size _ rfl, rfl, rfl⟩, fun b hb => ?_, q⟩
    have e : b = s1.heap.objs.size := by simpa using hb
    subst e
    exact I1.fpOk (Nat.le_refl _) (I1.hok.fresh (Nat.le_refl _))
def iRow (te : DTE) : DTI := fun r m R => te r m fun x m1 => match rowIt m1 x with
  | some it => R it m1
  | none => False
theorem di_row {tg l : Expr} (hl : DE X l te) : DI X tg l (iRow te) :=
  ⟨(pi_row hl.p).of fun s H R ⟨r, m, RR, hs, M, h, q⟩ => by
    refine ⟨r, m, _, hs, M, h, fun x m1 v H1 h1 s1 M1 q1 => ?_⟩
    unfold rowIt at h1
    split at h1
    · rename_i it e
      split at e
      · rename_i z
        cases e
        obtain rfl := Rep.str_.mp q1
        refine .inr ⟨z, rfl, q _ _ _ _ (fun _ _ => True) h1 s1 M1 ⟨trivial, fun _ _ _ _ _ _ => trivial, fun i H m M hv hG hi => ?_, fun H m M hv hG => ?_, fun i H m x H' M hv hG hi y => ?_⟩⟩
        · show i < z.cps.size
          simpa using hi
        · show z.cps.size ≤ _
          simp
        · obtain ⟨rfl, c, ec, rfl⟩ := y
          exact ⟨.str ⟨#[c]⟩, by simp [ec], Step.refl _ _ m, M, Rep.str_.mpr rfl⟩
      · refine .inl ?_
        unfold seqIt at e
        split at e
        · cases e
          rename_i ds _
          obtain ⟨a, xs, rfl, hx, rx⟩ := Rep.tup_.mp q1
          exact .inr ⟨a, rfl, ⟨xs, hx⟩, q _ _ _ _ _ h1 s1 M1 (itl_tup rfl (fun H m => SqT X.K H a xs ∧ Reps X.K H ds xs) ⟨hx, rx⟩ (fun H m H' m' st z => ⟨st.keep.t _ _ z.1, z.2.keep st.keep⟩) fun H m M hv _ => ⟨xs, hv⟩)⟩
        · cases e
          rename_i ds _
          unfold Rep at q1
          obtain ⟨a, xs, rfl, hx, rx⟩ := q1
          exact .inl ⟨a, rfl, ⟨xs, hx.sq⟩, q _ _ _ _ _ h1 s1 M1 (itl_list rfl (fun H m => RoL X.K H a xs ∧ Reps X.K H ds xs) ⟨hx, rx⟩ (fun H m H' m' st z => ⟨st.keep.l _ _ z.1, z.2.keep st.keep⟩) fun H m M hv _ => ⟨xs, hv.1.sq, hv.2⟩)⟩
        · rename_i a _
          split at e
          · cases e
            rename_i ds e
            obtain rfl := Rep.ref_.mp q1
            obtain ⟨xs, hx, rx⟩ := M1 a _ e
            refine .inl ⟨a, rfl, ⟨xs, SqL.of hx⟩, q _ _ _ _ _ h1 s1 M1 (itl_list rfl (fun H m => True) trivial (fun _ _ _ _ _ _ => trivial) fun H m M hv hG => ?_)⟩
            obtain ⟨xs, hx, rx⟩ := M a _ hG
            exact ⟨xs, SqL.of hx, rx⟩
          · cases e
        · cases e
    · exact h1.elim⟩
/-! ### x *= e -/
theorem iop_mulA : OpR X (inplaceOp .Mult) (rI CMulA fun i j => .int (i * j)) := opI fun _ _ _ _ _ _ _ hc q => imul_int q hc.ok
theorem ds_augMul {i : Nat} {x : Str} {pos' : Pos} (hN : X.N.Nodup) (hi : X.N[i]? = some x) (hx : Loc X.env.scope x) (he : DE X e te)
    (hf : X.fn x = true ∨ X.env.scope.names.lookup x = some .local := by first | exact .inl rfl | exact .inr rfl | assumption) :
    DS X (.AugAssign (.Name x pos') .Mult e pos) (sAug i te (gI CMulA fun i j => .int (i * j))) := ds_aug hN hi hx he iop_mulA lift_intC hf
/-! ### xs.extend(ys), both held; xs.insert(i, y) -/
def gExt : D → List D → Mu → DK → Prop := fun x ds m R => match x, ds with
  | .ref a, [.ref b] => match m a with
    | some (.lst xs) => match m b with
      | some (.lst ys) => xs.length + ys.length ≤ sizeLine ∧ R .non (mput m a (.lst (xs ++ ys)))
      | _ => False
    | _ => False
  | _, _ => False
theorem de_ext {apos cpos : Pos} (ho : DE X o to) (ha : DA X [e] t) (hbase : attributeBase o "extend" X.env (eval o X.env) = eval o X.env := by rfl)
    (hfew : ((backTo cpos (starEach [e] X.env)).all (fun x => !x.1) && (backToKw cpos (keywordEach [] X.env)).all (fun x => x.1.isSome)
      && decide ([e].length + ([] : List Keyword).length + (if ([] : List Keyword).isEmpty then 0 else 1) < 30)) = true := by rfl)
    (hline : (apos.endLine == cpos.line) = true := by rfl) (hs : starEach [e] X.env = (false, eval e X.env) :: starEach [] X.env := by rfl) (hplain : (backTo cpos (starEach [] X.env)).any (·.1) = false := by rfl) :
    DE X (.Call (.Attribute o "extend" apos) [e] [] cpos) (dM gExt to t) :=
  de_m PySem.F.slot_list_extend PySem.F.type_list_extend mt_extend (fun H m d ds v vs R Q M rd rds h q => by
    unfold gExt at h
    split at h
    · rename_i a b
      split at h
      · rename_i xs ex
        split at h
        · rename_i ys ey
          obtain rfl := Rep.ref_.mp rd
          obtain ⟨y, rfl, ry⟩ := rds.one_
          obtain rfl := Rep.ref_.mp ry
          obtain ⟨zs, hz, rz⟩ := M _ _ ex
          obtain ⟨ws, hw, rw'⟩ := M _ _ ey
          exact ⟨a, b, zs, ws, rfl, rfl, hz, hw, by rw [← rz.length, ← rw'.length]; exact h.1, q _ _ _ _ h.2 (Step.wr hz Mut.lst ex) (M.wr hz Mut.lst ⟨_, upd_same, (rz.append rw').keep (Keep.wr hz Mut.lst)⟩) (Rep.non_.mpr rfl)⟩
        · exact h.elim
      · exact h.elim
    · exact h.elim) ho ha hbase hfew hline hs hplain
end

/-! ### a def of the text, by its promise over data -/
structure Def (P : Program) (w : World) (K : PySem.W.Frag) (mg : Str → Option Value) (base : Heap) (x : Str) (k : Nat) (ps : List Str) (sp : DSp) : Prop where
  ex : ∃ (f : Addr) (fd : FuncData), FnOk P w K mg base CX0 k f fd ps (lSp K sp) ∧ mg x = some (.ref f) ∧ PySem.W.keepIn K (.ref f) = true ∧ Binds K fd ps []
theorem de_callD {X : Cx} {k : Nat} {x : Str} {ps : List Str} {sp : DSp} {e : Expr} {es : List Expr} {t : DTA} {p pos : Pos} (F : Def X.prog X.w X.K X.mg X.base x k ps sp) (hr : Room k X.A) (hg : Gl X x) (ha : DA X (e :: es) t)
    (hdb : (x == ("__debug__" : Str)) = false := by decide) (he : starEach (e :: es) X.env = (false, eval e X.env) :: starEach es X.env := by rfl) (hpl : (backTo pos (starEach es X.env)).any (·.1) = false := by rfl) :
    DE X (.Call (.Name x p) (e :: es) [] pos) (dCall sp t) := by
  obtain ⟨f, fd, G, hm, hk, hb⟩ := F.ex
  exact de_call G hr hg hm hk hb ha hdb he hpl
/-- where a def of the text stands behind the top -/
structure At (K : PySem.W.Frag) (mg : Str → Option Value) (x qual : Str) (st : Stmt) : Prop where
  ex : ∃ (f : Addr) (fd : FuncData), Fun K x qual st f fd ∧ mg x = some (.ref f)
theorem def_mk {P : Program} {w : World} {K : PySem.W.Frag} {mg : Str → Option Value} {base : Heap} {x : Str} {st : Stmt} {N ps : List Str} {k : Nat} {sp : DSp} {t : DTS} (F : At K mg x x st) (S : FnScope N ps (defScope st))
    (hb : ∀ (kV doc pm : Value) (an : Option Addr) (cdv ct : Value) (us : List Value), us.length = ps.length → bindArgs (PySem.W.fnOf x x (defArgs st) (defBody st) (defScope st) .none kV doc pm an cdv ct) ⟨us, []⟩ = pure (ps.zip us))
    (len : ∀ ds m R E, sp ds m R E → ds.length = ps.length)
    (hder : ∀ (f : Addr) (cdv : Value) (A : Around) (outer : List Env) (s : Shared) (H : Hp) (E : XK), Room k (A.deeper (envOfC x (defScope st) s.heap.objs.size f cdv)) → DSs (cxOf CX0 P w K mg base N x (defScope st) f cdv A outer s H E).nox (defBody st) t)
    (hread : ∀ ds m R E, sp ds m R E → t (dends R) (dstart N.length ds) m) : Def P w K mg base x (k + 1) ps sp := by
  obtain ⟨f, fd, G, hm⟩ := F.ex
  exact ⟨f, fd, def_ok G S len (fun cdv A outer s H E hr => hder f cdv A outer s H E hr) hread, hm, G.kp, G.binds hb⟩
theorem fn_mk {P : Program} {w : World} {K : PySem.W.Frag} {mg : Str → Option Value} {base : Heap} {x : Str} {st : Stmt} {N ps : List Str} {k : Nat} {sp : DSp} {t : DTS} {f : Addr} {fd : FuncData} (G : Fun K x x st f fd) (S : FnScope N ps (defScope st))
    (len : ∀ ds m R E, sp ds m R E → ds.length = ps.length)
    (hder : ∀ (cdv : Value) (A : Around) (outer : List Env) (s : Shared) (H : Hp) (E : XK), Room k (A.deeper (envOfC x (defScope st) s.heap.objs.size f cdv)) → DSs (cxOf CX0 P w K mg base N x (defScope st) f cdv A outer s H E).nox (defBody st) t)
    (hread : ∀ ds m R E, sp ds m R E → t (dends R) (dstart N.length ds) m) : FnOk P w K mg base CX0 (k + 1) f fd ps (lSp K sp) :=
  def_ok G S len (fun cdv A outer s H E hr => hder cdv A outer s H E hr) hread
end DL

/-! more built-ins -/
namespace DL
open PySem PySem.Spec PyProof.Rows L2
section
variable {X : Cx} {e : Expr} {t : DTA} {p pos : Pos}
/-- max of a list of ints -/
def gMaxN : List D → Mu → DK → Prop := fun ds m R => match intsOf ds with
  | some ns => 0 < ns.length ∧ ∀ z, z ∈ ns → (∀ y, y ∈ ns → y ≤ z) → R (.int z) m
  | none => False
def gMax1 : List D → Mu → DK → Prop := fun ds m R => match ds with
  | [.tup _] => False
  | [d] => match seqOf m d with
    | some xs => gMaxN xs m R
    | none => False
  | _ => False
theorem de_maxN (hc : X.calm = true) (gl : Gl X "max") (hm : X.mg "max" = none) (ha : DN X e t) (he : starEach [e] X.env = (false, eval e X.env) :: starEach [] X.env := by rfl) (hpl : (backTo pos (starEach [] X.env)).any (·.1) = false := by rfl) : DE X (.Call (.Name "max" p) [e] [] pos) (dN1 gMaxN t) :=
  ⟨(pe_callB (cr_max hc) gl hm (by decide +kernel) (pa_cons ha.p pa_nil he) (by decide) (by decide) he hpl).of fun s H Q ⟨r, m, R, hs, M, h, q⟩ => ⟨r, m, _, hs, M, h, fun ds m1 a xs H1 h1 s1 M1 ha hm hH rx => by
    unfold gMaxN at h1
    split at h1
    · rename_i ns en
      rw [intsOf_map en] at rx
      rw [rx.ints] at ha
      exact ⟨a, ns, rfl, SqL.of ha, h1.1, fun z z1 z2 => q _ _ _ _ (h1.2 z z1 z2) s1 M1 (Rep.int_.mpr rfl)⟩
    · exact h1.elim⟩⟩
theorem de_max1 (hc : X.calm = true) (gl : Gl X "max") (hm : X.mg "max" = none) (ha : DA X [e] t) (he : starEach [e] X.env = (false, eval e X.env) :: starEach [] X.env := by rfl) (hpl : (backTo pos (starEach [] X.env)).any (·.1) = false := by rfl) : DE X (.Call (.Name "max" p) [e] [] pos) (dB gMax1 t) :=
  de_b (cr_max hc) (fun H m ds vs R Q M r h q => by
    unfold gMax1 at h
    split at h
    · exact h.elim
    · rename_i d hn
      split at h
      · rename_i xs ex
        unfold gMaxN at h
        split at h
        · rename_i ns en
          obtain ⟨v, rfl, rv⟩ := r.one_
          obtain ⟨a, ys, rfl, hy, ry⟩ := seqOf_list M rv ex (fun ds e => hn ds e)
          rw [intsOf_map en] at ry
          rw [ry.ints] at hy
          exact ⟨a, ns, rfl, hy, h.1, fun z z1 z2 => q.here (h.2 z z1 z2) M (Rep.int_.mpr rfl)⟩
        · exact h.elim
      · exact h.elim
    · exact h.elim) gl hm (by decide +kernel) ha (by decide) (by decide) he hpl
/-- min of a list of ints -/
def gMinN : List D → Mu → DK → Prop := fun ds m R => match intsOf ds with
  | some ns => 0 < ns.length ∧ ∀ z, z ∈ ns → (∀ y, y ∈ ns → z ≤ y) → R (.int z) m
  | none => False
def gMin1 : List D → Mu → DK → Prop := fun ds m R => match ds with
  | [.tup _] => False
  | [d] => match seqOf m d with
    | some xs => gMinN xs m R
    | none => False
  | _ => False
theorem de_minN (hc : X.calm = true) (gl : Gl X "min") (hm : X.mg "min" = none) (ha : DN X e t) (he : starEach [e] X.env = (false, eval e X.env) :: starEach [] X.env := by rfl) (hpl : (backTo pos (starEach [] X.env)).any (·.1) = false := by rfl) : DE X (.Call (.Name "min" p) [e] [] pos) (dN1 gMinN t) :=
  ⟨(pe_callB (cr_min hc) gl hm (by decide +kernel) (pa_cons ha.p pa_nil he) (by decide) (by decide) he hpl).of fun s H Q ⟨r, m, R, hs, M, h, q⟩ => ⟨r, m, _, hs, M, h, fun ds m1 a xs H1 h1 s1 M1 ha hm hH rx => by
    unfold gMinN at h1
    split at h1
    · rename_i ns en
      rw [intsOf_map en] at rx
      rw [rx.ints] at ha
      exact ⟨a, ns, rfl, SqL.of ha, h1.1, fun z z1 z2 => q _ _ _ _ (h1.2 z z1 z2) s1 M1 (Rep.int_.mpr rfl)⟩
    · exact h1.elim⟩⟩
theorem de_min1 (hc : X.calm = true) (gl : Gl X "min") (hm : X.mg "min" = none) (ha : DA X [e] t) (he : starEach [e] X.env = (false, eval e X.env) :: starEach [] X.env := by rfl) (hpl : (backTo pos (starEach [] X.env)).any (·.1) = false := by rfl) : DE X (.Call (.Name "min" p) [e] [] pos) (dB gMin1 t) :=
  de_b (cr_min hc) (fun H m ds vs R Q M r h q => by
    unfold gMin1 at h
    split at h
    · exact h.elim
    · rename_i d hn
      split at h
      · rename_i xs ex
        unfold gMinN at h
        split at h
        · rename_i ns en
          obtain ⟨v, rfl, rv⟩ := r.one_
          obtain ⟨a, ys, rfl, hy, ry⟩ := seqOf_list M rv ex (fun ds e => hn ds e)
          rw [intsOf_map en] at ry
          rw [ry.ints] at hy
          exact ⟨a, ns, rfl, hy, h.1, fun z z1 z2 => q.here (h.2 z z1 z2) M (Rep.int_.mpr rfl)⟩
        · exact h.elim
      · exact h.elim
    · exact h.elim) gl hm (by decide +kernel) ha (by decide) (by decide) he hpl
end
end DL

/-! insert -/
namespace DL
open PySem PySem.Spec PyProof.Rows L2
section
variable {X : Cx} {o e e2 : Expr} {to : DTE} {t : DTA} {p pos : Pos}
def gInsert : D → List D → Mu → DK → Prop := fun x ds m R => match x, ds with
  | .ref a, [.int i, d] => match m a with
    | some (.lst xs) => xs.length < sizeLine ∧ 0 ≤ i ∧ i < 2 ^ 63 ∧ R .non (mput m a (.lst (xs.take i.toNat ++ [d] ++ xs.drop i.toNat)))
    | _ => False
  | _, _ => False
theorem de_insert {apos cpos : Pos} (ho : DE X o to) (ha : DA X [e, e2] t) (hbase : attributeBase o "insert" X.env (eval o X.env) = eval o X.env := by rfl)
    (hfew : ((backTo cpos (starEach [e, e2] X.env)).all (fun x => !x.1) && (backToKw cpos (keywordEach [] X.env)).all (fun x => x.1.isSome)
      && decide ([e, e2].length + ([] : List Keyword).length + (if ([] : List Keyword).isEmpty then 0 else 1) < 30)) = true := by rfl)
    (hline : (apos.endLine == cpos.line) = true := by rfl) (hs : starEach [e, e2] X.env = (false, eval e X.env) :: starEach [e2] X.env := by rfl) (hplain : (backTo cpos (starEach [e2] X.env)).any (·.1) = false := by rfl) :
    DE X (.Call (.Attribute o "insert" apos) [e, e2] [] cpos) (dM gInsert to t) :=
  de_m PySem.F.slot_list_insert PySem.F.type_list_insert mt_insert (fun H m d ds v vs R Q M rd rds h q => by
    unfold gInsert at h
    split at h
    · rename_i a i c
      split at h
      · rename_i xs ex
        obtain rfl := Rep.ref_.mp rd
        unfold Reps at rds
        obtain ⟨w, ws, rfl, r1, r2⟩ := rds
        unfold Reps at r2
        obtain ⟨y, ys, rfl, ry, r3⟩ := r2
        unfold Reps at r3
        subst r3
        obtain rfl := Rep.int_.mp r1
        obtain ⟨zs, hz, rz⟩ := M _ _ ex
        exact ⟨a, zs, i, y, rfl, rfl, hz, by rw [← rz.length]; exact h.1, h.2.1, h.2.2.1, q _ _ _ _ h.2.2.2 (Step.wr hz Mut.lst ex) (M.wr hz Mut.lst ⟨_, upd_same, (((rz.take _).append (Reps.one ry)).append (rz.drop _)).keep (Keep.wr hz Mut.lst)⟩) (Rep.non_.mpr rfl)⟩
      · exact h.elim
    · exact h.elim) ho ha hbase hfew hline hs hplain
end
end DL

/-! texts: index, count, join -/
namespace DL
open PySem PySem.Spec PyProof.Rows L2
section
variable {X : Cx} {pos : Pos}
/-- a name of the module that holds a text, or a whole number -/
theorem de_globS {x z : Str} (h : ∃ t, X.mg x = some (.str z t)) (hg : Gl X x) (hd : (x == ("__debug__" : Str)) = false := by decide) : DE X (.Name x pos) (dC (.str z)) := by
  obtain ⟨t, hm⟩ := h
  exact ⟨(pe_glob hg hm (v := .str z) ⟨t, rfl⟩ hd).of fun s H Q ⟨r, m, R, hs, M, h, q⟩ => q.here h M (Rep.str_.mpr rfl)⟩
theorem de_globI {x : Str} {i : Int} (h : ∃ t, X.mg x = some (.int i t)) (hg : Gl X x) (hd : (x == ("__debug__" : Str)) = false := by decide) : DE X (.Name x pos) (dC (.int i)) := by
  obtain ⟨t, hm⟩ := h
  exact ⟨(pe_glob hg hm (v := .int i) ⟨t, rfl⟩ hd).of fun s H Q ⟨r, m, R, hs, M, h, q⟩ => q.here h M (Rep.int_.mpr rfl)⟩
end
def isStr : D → Prop
  | .str _ => True
  | _ => False
theorem isStr_ty {K : PySem.W.Frag} {H : Hp} {x : D} {v : V} (h : isStr x) (r : Rep K H x v) : tyV K "str" v H := by
  unfold isStr at h
  split at h
  · obtain rfl := Rep.str_.mp r
    rfl
  · exact h.elim
section
variable {X : Cx} {o e : Expr} {es : List Expr} {to : DTE} {t : DTA} {apos cpos : Pos}
def dS (g : D → List D → Mu → DK → Prop) (to : DTE) (t : DTA) : DTE := fun r m R => to r m fun x m1 => isStr x ∧ t r m1 fun xs m2 => g x xs m2 R
theorem de_s {id : String} {name : Str} {r : V → List V → Hp → VK → Prop} {g : D → List D → Mu → DK → Prop} (slot : Slot "str" name id) (hty : typeOf (.builtin id) = pure (.type "method_descriptor")) (hm : MtR X id r) (hg : LiftM X.K r g) (ho : DE X o to) (ha : DA X (e :: es) t)
    (hbase : attributeBase o name X.env (eval o X.env) = eval o X.env := by rfl)
    (hfew : ((backTo cpos (starEach (e :: es) X.env)).all (fun x => !x.1) && (backToKw cpos (keywordEach [] X.env)).all (fun x => x.1.isSome)
      && decide ((e :: es).length + ([] : List Keyword).length + (if ([] : List Keyword).isEmpty then 0 else 1) < 30)) = true := by rfl)
    (hline : (apos.endLine == cpos.line) = true := by rfl) (hs : starEach (e :: es) X.env = (false, eval e X.env) :: starEach es X.env := by rfl) (hplain : (backTo cpos (starEach es X.env)).any (·.1) = false := by rfl) :
    DE X (.Call (.Attribute o name apos) (e :: es) [] cpos) (dS g to t) :=
  ⟨(pe_bm PySem.F.plainAttrs_str slot hty hm ho.p ha.p hbase hfew hline hs hplain).of fun s H Q ⟨r, m, R, hs, M, h, q⟩ => ⟨r, m, _, hs, M, h, fun x m1 v H1 h1 s1 M1 q1 =>
    ⟨isStr_ty h1.1 q1, r, m1, _, hs.keep s1.keep, M1, h1.2, fun ds m2 vs H2 h2 s2 M2 q2 => hg H2 m2 x ds v vs R Q M2 (q1.keep s2.keep) q2 h2 (q.step (s1.trans s2))⟩⟩⟩
def gStrIndex : D → List D → Mu → DK → Prop := fun x ds m R => match x, ds with
  | .str a, [.str b] => match Builtin.Str.occurrences a b 0 a.length 1 with
    | i :: _ => R (.int (i : Nat)) m
    | [] => False
  | _, _ => False
theorem de_strIndex (ho : DE X o to) (ha : DA X [e] t) (hbase : attributeBase o "index" X.env (eval o X.env) = eval o X.env := by rfl)
    (hfew : ((backTo cpos (starEach [e] X.env)).all (fun x => !x.1) && (backToKw cpos (keywordEach [] X.env)).all (fun x => x.1.isSome)
      && decide ([e].length + ([] : List Keyword).length + (if ([] : List Keyword).isEmpty then 0 else 1) < 30)) = true := by rfl)
    (hline : (apos.endLine == cpos.line) = true := by rfl) (hs : starEach [e] X.env = (false, eval e X.env) :: starEach [] X.env := by rfl) (hplain : (backTo cpos (starEach [] X.env)).any (·.1) = false := by rfl) :
    DE X (.Call (.Attribute o "index" apos) [e] [] cpos) (dS gStrIndex to t) :=
  de_s PySem.F.slot_str_index PySem.F.type_str_index mt_sindex (fun H m d ds v vs R Q M rd rds h q => by
    unfold gStrIndex at h
    split at h
    · rename_i a b
      split at h
      · rename_i i rest eo
        obtain rfl := Rep.str_.mp rd
        obtain ⟨y, rfl, ry⟩ := rds.one_
        obtain rfl := Rep.str_.mp ry
        exact ⟨a, b, i, rest, rfl, rfl, eo, q.here h M (Rep.int_.mpr rfl)⟩
      · exact h.elim
    · exact h.elim) ho ha hbase hfew hline hs hplain
def gStrCount : D → List D → Mu → DK → Prop := fun x ds m R => match x, ds with
  | .str a, [.str b] => R (.int (Txt.count a b)) m
  | _, _ => False
theorem de_strCount (ho : DE X o to) (ha : DA X [e] t) (hbase : attributeBase o "count" X.env (eval o X.env) = eval o X.env := by rfl)
    (hfew : ((backTo cpos (starEach [e] X.env)).all (fun x => !x.1) && (backToKw cpos (keywordEach [] X.env)).all (fun x => x.1.isSome)
      && decide ([e].length + ([] : List Keyword).length + (if ([] : List Keyword).isEmpty then 0 else 1) < 30)) = true := by rfl)
    (hline : (apos.endLine == cpos.line) = true := by rfl) (hs : starEach [e] X.env = (false, eval e X.env) :: starEach [] X.env := by rfl) (hplain : (backTo cpos (starEach [] X.env)).any (·.1) = false := by rfl) :
    DE X (.Call (.Attribute o "count" apos) [e] [] cpos) (dS gStrCount to t) :=
  de_s PySem.F.slot_str_count PySem.F.type_str_count mt_count (fun H m d ds v vs R Q M rd rds h q => by
    unfold gStrCount at h
    split at h
    · rename_i a b
      obtain rfl := Rep.str_.mp rd
      obtain ⟨y, rfl, ry⟩ := rds.one_
      obtain rfl := Rep.str_.mp ry
      exact ⟨a, b, rfl, rfl, q.here h M (Rep.int_.mpr rfl)⟩
    · exact h.elim) ho ha hbase hfew hline hs hplain
/-- texts of a row -/
def strsOf : List D → Option (List Str)
  | [] => some []
  | .str z :: ds => (strsOf ds).map (z :: ·)
  | _ => none
theorem Reps.strs {K : PySem.W.Frag} {H : Hp} : ∀ {ds : List D} {zs : List Str} {vs : List V}, strsOf ds = some zs → Reps K H ds vs → vs = zs.map V.str
  | [], zs, vs, h, r => by
    unfold Reps at r
    unfold strsOf at h
    cases h
    exact r
  | d :: ds, zs, vs, h, r => by
    unfold Reps at r
    obtain ⟨v, ws, rfl, r1, r2⟩ := r
    unfold strsOf at h
    split at h
    · rename_i he
      cases he
    · rename_i z ds' he
      cases he
      cases e : strsOf ds with
      | none => rw [e] at h; cases h
      | some ys =>
        rw [e] at h
        cases h
        rw [Rep.str_.mp r1, Reps.strs e r2]
        rfl
    · cases h
def strK (x : D) (k : Str → Prop) : Prop := match x with
  | .str z => k z
  | _ => False
def dJoinN (to : DTE) (t : DTA) : DTE := fun r m R => to r m fun x m1 => isStr x ∧ t r m1 fun ds m2 => strK x fun a => match strsOf ds with
  | some ys => (ys.map (·.length)).sum + ys.length * a.length ≤ 16777216 ∧ R (.str (Txt.join a ys)) m2
  | none => False
theorem de_joinN (ho : DE X o to) (ha : DN X e t) (hbase : attributeBase o "join" X.env (eval o X.env) = eval o X.env := by rfl)
    (hfew : ((backTo cpos (starEach [e] X.env)).all (fun x => !x.1) && (backToKw cpos (keywordEach [] X.env)).all (fun x => x.1.isSome)
      && decide ([e].length + ([] : List Keyword).length + (if ([] : List Keyword).isEmpty then 0 else 1) < 30)) = true := by rfl)
    (hline : (apos.endLine == cpos.line) = true := by rfl) (hs : starEach [e] X.env = (false, eval e X.env) :: starEach [] X.env := by rfl) (hplain : (backTo cpos (starEach [] X.env)).any (·.1) = false := by rfl) :
    DE X (.Call (.Attribute o "join" apos) [e] [] cpos) (dJoinN to t) :=
  ⟨(pe_bm PySem.F.plainAttrs_str PySem.F.slot_str_join PySem.F.type_str_join mt_join ho.p (pa_cons ha.p pa_nil hs) hbase hfew hline hs hplain).of fun s H Q ⟨r, m, R, hs, M, h, q⟩ => ⟨r, m, _, hs, M, h, fun x m1 v H1 h1 s1 M1 q1 =>
    ⟨isStr_ty h1.1 q1, r, m1, _, hs.keep s1.keep, M1, h1.2, fun ds m2 a xs H2 h2 s2 M2 ha hm hH rx => by
      unfold strK at h2
      split at h2
      · rename_i z
        split at h2
        · rename_i ys ey
          have rz : Rep X.K H2 (.str z) v := q1.keep s2.keep
          obtain rfl := Rep.str_.mp rz
          rw [Reps.strs ey rx] at ha
          exact ⟨z, a, ys, rfl, rfl, .inl (SqL.of ha), h2.1, q _ _ _ _ h2.2 (s1.trans s2) M2 (Rep.str_.mpr rfl)⟩
        · exact h2.elim
      · exact h2.elim⟩⟩⟩
end
end DL

/-! pop(i), sorted, list(range) -/
namespace DL
open PySem PySem.Spec PyProof.Rows L2
section
variable {X : Cx} {o e e2 : Expr} {to : DTE} {t : DTA} {p pos : Pos}
theorem Reps.erase {K : PySem.W.Frag} {H : Hp} : ∀ {ds : List D} {vs : List V} (k : Nat), Reps K H ds vs → Reps K H (ds.eraseIdx k) (vs.eraseIdx k)
  | [], vs, k, h => by unfold Reps at h; subst h; simp [Reps]
  | d :: ds, vs, 0, h => by
    unfold Reps at h
    obtain ⟨v, r, e, _, h2⟩ := h
    subst e
    simpa using h2
  | d :: ds, vs, k + 1, h => by
    unfold Reps at h
    obtain ⟨v, r, e, h1, h2⟩ := h
    subst e
    simpa using Reps.cons h1 (Reps.erase k h2)
def gPopAt : D → List D → Mu → DK → Prop := fun x ds m R => match x, ds with
  | .ref a, [.int i] => match m a with
    | some (.lst xs) => (0 ≤ i ∧ i < 2 ^ 63) ∧ i < xs.length ∧ ∀ y, xs[i.toNat]? = some y → R y (mput m a (.lst (xs.eraseIdx i.toNat)))
    | _ => False
  | _, _ => False
theorem seqIx_nat {i : Int} {n : Nat} (h0 : 0 ≤ i) (h1 : i < n) : seqIndex? i n = some i.toNat := by
  unfold seqIndex?
  simp
  omega
theorem de_popAt {apos cpos : Pos} (ho : DE X o to) (ha : DA X [e] t) (hbase : attributeBase o "pop" X.env (eval o X.env) = eval o X.env := by rfl)
    (hfew : ((backTo cpos (starEach [e] X.env)).all (fun x => !x.1) && (backToKw cpos (keywordEach [] X.env)).all (fun x => x.1.isSome)
      && decide ([e].length + ([] : List Keyword).length + (if ([] : List Keyword).isEmpty then 0 else 1) < 30)) = true := by rfl)
    (hline : (apos.endLine == cpos.line) = true := by rfl) (hs : starEach [e] X.env = (false, eval e X.env) :: starEach [] X.env := by rfl) (hplain : (backTo cpos (starEach [] X.env)).any (·.1) = false := by rfl) :
    DE X (.Call (.Attribute o "pop" apos) [e] [] cpos) (dM gPopAt to t) :=
  de_m PySem.F.slot_list_pop PySem.F.type_list_pop mt_popAt (fun H m d ds v vs R Q M rd rds h q => by
    unfold gPopAt at h
    split at h
    · rename_i a i
      split at h
      · rename_i xs ex
        obtain ⟨⟨h0, hbig⟩, h1, h2⟩ := h
        obtain rfl := Rep.ref_.mp rd
        obtain ⟨y, rfl, ry⟩ := rds.one_
        obtain rfl := Rep.int_.mp ry
        obtain ⟨zs, hz, rz⟩ := M _ _ ex
        have hl := rz.length
        have hi : i.toNat < xs.length := by omega
        have ey : xs[i.toNat]? = some xs[i.toNat] := List.getElem?_eq_getElem hi
        obtain ⟨u, eu, ru⟩ := rz.get ey
        exact ⟨a, zs, i, i.toNat, u, rfl, rfl, hz, by omega, hbig, seqIx_nat h0 (by rw [← hl]; exact h1), eu, q _ _ _ _ (h2 _ ey) (Step.wr hz Mut.lst ex) (M.wr hz Mut.lst ⟨_, upd_same, (rz.erase _).keep (Keep.wr hz Mut.lst)⟩) (ru.keep (Keep.wr hz Mut.lst))⟩
      · exact h.elim
    · exact h.elim) ho ha hbase hfew hline hs hplain
/-- sorted of a list of ints: a new list -/
def gSorted1 (ds : List D) (m : Mu) (R : List D → Mu → Prop) : Prop := match intsOf ds with
  | some ns => ns.length < 64 ∧ ∀ ns' : List Int, ns'.Perm ns → ns'.Pairwise (· ≤ ·) → R (ns'.map D.int) m
  | none => False
def nSorted (te : DTE) : DTA := fun r m R => te r m fun x m1 => match x with
  | .tup _ => False
  | x => match seqOf m1 x with
    | some ds => gSorted1 ds m1 R
    | none => False
theorem dn_sorted {te : DTE} (gl : Gl X "sorted") (hm : X.mg "sorted" = none) (he : DE X e te) (hs : starEach [e] X.env = (false, eval e X.env) :: starEach [] X.env := by rfl) (hpl : (backTo pos (starEach [] X.env)).any (·.1) = false := by rfl) : DN X (.Call (.Name "sorted" p) [e] [] pos) (nSorted te) :=
  ⟨(pe_callB cr_sorted gl hm (by decide +kernel) (pa_cons he.p pa_nil hs) (by decide) (by decide) hs hpl).of fun s H Q ⟨r, m, R, hs, M, h, q⟩ => ⟨r, m, _, hs, M, h, fun x m1 v H1 h1 s1 M1 q1 => by
    split at h1
    · exact h1.elim
    · rename_i hn
      split at h1
      · rename_i ds eds
        unfold gSorted1 at h1
        split at h1
        · rename_i ns en
          obtain ⟨a, xs, rfl, hx, rx⟩ := seqOf_list M1 q1 eds (fun ds e => hn ds e)
          rw [intsOf_map en] at rx
          rw [rx.ints] at hx
          exact ⟨a, ns, rfl, hx, h1.1, fun ns' z hp hq hz => q _ _ _ _ _ (h1.2 ns' hp hq) (s1.trans (Step.new hz)) (M1.new hz) upd_same (M1.free hz) (s1.th _ hz) (Reps.of_ints ns')⟩
        · exact h1.elim
      · exact h1.elim⟩⟩
/-- list(range(n)) -/
def nRange1 (te : DTE) : DTA := fun r m R => te r m fun x m1 => match x with
  | .int j => (-(2 ^ 62) ≤ j ∧ j < 2 ^ 62 ∧ j.toNat ≤ 2 ^ 24) ∧ R (rngItems 0 j.toNat) m1
  | _ => False
theorem Reps.rng {K : PySem.W.Frag} {H : Hp} (j : Int) : Reps K H (rngItems 0 j.toNat) (rgV 0 j) := by
  have key : ∀ (l : List Nat), Reps K H (l.map fun (k : Nat) => D.int (0 + (k : Int))) (l.map fun (k : Nat) => V.int (0 + (k : Int))) := by
    intro l
    induction l with
    | nil => exact Reps.nil
    | cons x l ih => exact Reps.cons (Rep.int_.mpr rfl) ih
  have e1 : rngItems 0 j.toNat = (List.range j.toNat).map fun (k : Nat) => D.int (0 + (k : Int)) := by
    unfold rngItems
    rfl
  have e2 : rgV 0 j = (List.range j.toNat).map fun (k : Nat) => V.int (0 + (k : Int)) := by
    unfold rgV
    rw [Int.sub_zero]
  rw [e1, e2]
  exact key _
theorem dn_range1 {a : Expr} {ta : DTE} {p2 pos2 : Pos} (hc : X.calm = true) (gl : Gl X "list") (hm : X.mg "list" = none) (gr : Gl X "range") (hr : X.mg "range" = none) (ha : DE X a ta) (na : starEach [a] X.env = (false, eval a X.env) :: starEach [] X.env := by rfl)
    (nb : starEach [.Call (.Name "range" p2) [a] [] pos2] X.env = (false, eval (.Call (.Name "range" p2) [a] [] pos2) X.env) :: starEach [] X.env := by rfl) : DN X (.Call (.Name "list" p) [.Call (.Name "range" p2) [a] [] pos2] [] pos) (nRange1 ta) :=
  ⟨(pe_listRg hc gl hm (prg_1 gr hr ha.p na) nb).of fun s H Q ⟨r, m, R, hs, M, h, q⟩ => ⟨r, m, _, hs, M, h, fun x m1 v H1 h1 s1 M1 q1 => by
    split at h1
    · rename_i j
      obtain rfl := Rep.int_.mp q1
      exact ⟨j, rfl, ⟨by omega, by omega, h1.1.1, h1.1.2.1, by rw [Int.sub_zero]; exact h1.1.2.2⟩, fun z hz => q _ _ _ _ _ h1.2 (s1.trans (Step.new hz)) (M1.new hz) upd_same (M1.free hz) (s1.th _ hz) ((Reps.rng j).keep (Keep.new hz))⟩
    · exact h1.elim⟩⟩
/-- a held list so many times -/
def nRepE (ta tb : DTE) : DTA := fun r m R => ta r m fun x m1 => tb r m1 fun y m2 => match x with
  | .ref a => match m2 a with
    | some (.lst xs) => match y with
      | .int k => (-(2 ^ 63) ≤ k ∧ k < 2 ^ 63 ∧ xs.length * k.toNat ≤ sizeLine) ∧ R (List.replicate k.toNat xs).flatten m2
      | _ => False
    | _ => False
  | _ => False
theorem dn_repE {a b : Expr} {ta tb : DTE} (ha : DE X a ta) (hb : DE X b tb) : DN X (.BinOp a .Mult b pos) (nRepE ta tb) :=
  ⟨(pe_op op_rep ha.p hb.p).of fun s H Q ⟨r, m, R, hs, M, h, q⟩ => ⟨r, m, _, hs, M, h, fun x m1 v H1 h1 s1 M1 q1 => ⟨r, m1, _, hs.keep s1.keep, M1, h1, fun y m2 w H2 h2 s2 M2 q2 => by
    have st := s1.trans s2
    split at h2
    · rename_i a
      split at h2
      · rename_i xs ex
        split at h2
        · rename_i k
          obtain rfl := Rep.ref_.mp q1
          obtain rfl := Rep.int_.mp q2
          obtain ⟨vs, hv, rv⟩ := M2 _ _ ex
          exact ⟨a, k, vs, rfl, rfl, hv, h2.1.1, h2.1.2.1, by rw [← rv.length]; exact h2.1.2.2, fun p hp => q _ _ _ _ _ h2.2 (st.trans (Step.new hp)) (M2.new hp) upd_same (M2.free hp) (st.th _ hp) ((rv.rep _).keep (Keep.new hp))⟩
        · exact h2.elim
      · exact h2.elim
    · exact h2.elim⟩⟩⟩
end
end DL

/-! dicts whose keys are rows of ints -/
namespace DL
open PySem PySem.Spec PyProof.Rows L2
section
variable {X : Cx} {o e i value : Expr} {to te ti tv : DTE} {p pos pos' : Pos}
/-- a key: a tuple of ints or texts -/
def keyD : D → Option Key
  | .int i => some (.inl i)
  | .str x => some (.inr x)
  | _ => none
def keysD : List D → Option (List Key)
  | [] => some []
  | d :: ds => match keyD d with
    | some k => match keysD ds with
      | some ks => some (k :: ks)
      | none => none
    | none => none
def kD : Key → D
  | .inl i => .int i
  | .inr x => .str x
theorem keyD_rep {K : PySem.W.Frag} {H : Hp} {d : D} {v : V} {k : Key} (h : keyD d = some k) (r : Rep K H d v) : v = kV k := by
  unfold keyD at h
  split at h
  · cases h; exact Rep.int_.mp r
  · cases h; exact Rep.str_.mp r
  · cases h
theorem keysD_rep {K : PySem.W.Frag} {H : Hp} : ∀ {ds : List D} {vs : List V} {ks : List Key}, keysD ds = some ks → Reps K H ds vs → vs = ks.map kV
  | [], vs, ks, h, r => by
    unfold keysD at h
    cases h
    unfold Reps at r
    rw [r]
    rfl
  | d :: ds, vs, ks, h, r => by
    unfold keysD at h
    split at h
    · rename_i k ek
      split at h
      · rename_i ks' eks
        cases h
        unfold Reps at r
        obtain ⟨v, ws, rfl, r1, r2⟩ := r
        rw [keyD_rep ek r1, keysD_rep eks r2]
        rfl
      · cases h
    · cases h
theorem kD_rep {K : PySem.W.Frag} {H : Hp} (k : Key) : Rep K H (kD k) (kV k) := by
  cases k with
  | inl i => exact Rep.int_.mpr rfl
  | inr x => exact Rep.str_.mpr rfl
theorem kDs_rep {K : PySem.W.Frag} {H : Hp} : ∀ ks : List Key, Reps K H (ks.map kD) (ks.map kV)
  | [] => by unfold Reps; rfl
  | k :: ks => by
    rw [List.map_cons, List.map_cons, Reps]
    exact ⟨_, _, rfl, kD_rep k, kDs_rep ks⟩
/-- put and look up -/
def putD (kvs : List (List Key × D)) (k : List Key) (d : D) : List (List Key × D) :=
  if (kvs.any fun kv => decide (kv.1 = k)) = true then kvs.map (fun kv => if kv.1 = k then (kv.1, d) else kv) else kvs ++ [(k, d)]
def valD (kvs : List (List Key × D)) (k : List Key) : Option D := (kvs.find? fun kv => decide (kv.1 = k)).map (·.2)
theorem RepK.any {K : PySem.W.Frag} {H : Hp} {k : List Key} : ∀ {kvs : List (List Key × D)} {vs : List (List Key × V)}, RepK K H kvs vs → (kvs.any fun kv => decide (kv.1 = k)) = (vs.any fun kv => decide (kv.1 = k))
  | [], vs, h => by unfold RepK at h; rw [h]; rfl
  | (c, d) :: kvs, vs, h => by
    unfold RepK at h
    obtain ⟨v, ws, rfl, h1, h2⟩ := h
    rw [List.any_cons, List.any_cons, RepK.any h2]
theorem RepK.val {K : PySem.W.Frag} {H : Hp} {k : List Key} {d : D} : ∀ {kvs : List (List Key × D)} {vs : List (List Key × V)}, RepK K H kvs vs → valD kvs k = some d → ∃ v, valV vs k = some v ∧ Rep K H d v
  | [], vs, h, e => by unfold valD at e; simp at e
  | (c, d') :: kvs, vs, h, e => by
    unfold RepK at h
    obtain ⟨v, ws, rfl, h1, h2⟩ := h
    unfold valD at e
    unfold valV
    by_cases q : c = k
    · subst q
      rw [List.find?_cons_of_pos (by simp)] at e ⊢
      simp at e
      subst e
      exact ⟨v, rfl, h1⟩
    · rw [List.find?_cons_of_neg (by simpa using q)] at e ⊢
      exact RepK.val h2 e
theorem RepK.repl {K : PySem.W.Frag} {H : Hp} {k : List Key} {d : D} {v : V} (r : Rep K H d v) : ∀ {kvs : List (List Key × D)} {vs : List (List Key × V)}, RepK K H kvs vs → RepK K H (kvs.map fun kv => if kv.1 = k then (kv.1, d) else kv) (vs.map fun kv => if kv.1 = k then (kv.1, v) else kv)
  | [], vs, h => by unfold RepK at h; rw [h]; rfl
  | (c, d') :: kvs, vs, h => by
    unfold RepK at h
    obtain ⟨w, ws, rfl, h1, h2⟩ := h
    have ih := RepK.repl r (k := k) h2
    rw [List.map_cons, List.map_cons]
    by_cases q : c = k
    · rw [if_pos q, if_pos q]
      unfold RepK
      exact ⟨v, _, rfl, r, ih⟩
    · rw [if_neg q, if_neg q]
      unfold RepK
      exact ⟨w, _, rfl, h1, ih⟩
theorem RepK.snoc {K : PySem.W.Frag} {H : Hp} {k : List Key} {d : D} {v : V} (r : Rep K H d v) : ∀ {kvs : List (List Key × D)} {vs : List (List Key × V)}, RepK K H kvs vs → RepK K H (kvs ++ [(k, d)]) (vs ++ [(k, v)])
  | [], vs, h => by
    unfold RepK at h
    rw [h]
    exact ⟨v, [], rfl, r, by unfold RepK; rfl⟩
  | (c, d') :: kvs, vs, h => by
    unfold RepK at h
    obtain ⟨w, ws, rfl, h1, h2⟩ := h
    exact ⟨w, _, rfl, h1, RepK.snoc r h2⟩
theorem RepK.put {K : PySem.W.Frag} {H : Hp} {k : List Key} {d : D} {v : V} {kvs : List (List Key × D)} {vs : List (List Key × V)} (h : RepK K H kvs vs) (r : Rep K H d v) : RepK K H (putD kvs k d) (putK vs k v) := by
  unfold putD putK
  rw [h.any]
  split
  · exact h.repl r
  · exact h.snoc r
theorem RepK.length {K : PySem.W.Frag} {H : Hp} : ∀ {kvs : List (List Key × D)} {vs : List (List Key × V)}, RepK K H kvs vs → kvs.length = vs.length
  | [], vs, h => by unfold RepK at h; rw [h]; rfl
  | (c, d) :: kvs, vs, h => by
    unfold RepK at h
    obtain ⟨v, ws, rfl, h1, h2⟩ := h
    rw [List.length_cons, List.length_cons, RepK.length h2]
/-- {} -/
def dNewT : DTE := fun _ m R => ∀ a, m a = none → R (.ref a) (mput m a (.dT []))
theorem de_newT : DE X (.Dict [] [] pos) dNewT :=
  ⟨pe_dnewT.of fun s H Q ⟨r, m, R, hs, M, h, q⟩ => fun a ha => q _ _ _ _ (h a (M.free ha)) (Step.newM ha) (M.newM ha ⟨[], upd_same, by unfold RepK; rfl⟩) (Rep.ref_.mpr rfl)⟩
/-- d[k] -/
def gGetT : D → D → Mu → DK → Prop := fun x y m R => match x with
  | .ref a => match m a with
    | some (.dT kvs) => match y with
      | .tup ds => match keysD ds with
        | some k => match valD kvs k with
          | some d => R d m
          | none => False
        | none => False
      | _ => False
    | _ => False
  | _ => False
theorem de_getT (hu : X.A.units + 1 < cLine) (ho : DE X o to) (hi : DE X i ti) (hs : NoSl i := by exact fun _ _ => rfl) : DE X (.Subscript o i pos) (d2 gGetT to ti) :=
  ⟨(pe_dget hu ho.p hi.p hs).of fun s H Q ⟨r, m, R, hs, M, h, q⟩ => ⟨r, m, _, hs, M, h, fun x m1 v H1 h1 s1 M1 q1 => ⟨r, m1, _, hs.keep s1.keep, M1, h1, fun y m2 w H2 h2 s2 M2 q2 => by
    unfold gGetT at h2
    split at h2
    · rename_i a
      split at h2
      · rename_i kvs ek
        split at h2
        · rename_i ds
          split at h2
          · rename_i k eks
            split at h2
            · rename_i d ed
              obtain rfl := Rep.ref_.mp q1
              obtain ⟨b, xs, rfl, hb, rx⟩ := Rep.tup0.mp q2
              obtain ⟨vs, hv, rv⟩ := M2 _ _ ek
              rw [keysD_rep eks rx] at hb
              obtain ⟨z, ez, rz⟩ := rv.val ed
              exact ⟨a, z, rfl, .inr ⟨vs, k, b, .inl hv, rfl, hb, ez.symm⟩, q _ _ _ _ h2 (s1.trans s2) M2 rz⟩
            · exact h2.elim
          · exact h2.elim
        · exact h2.elim
      · exact h2.elim
    · exact h2.elim⟩⟩⟩
/-- d[k] = v -/
def gPutT (x y d : D) (m : Mu) (R : Mu → Prop) : Prop := match x with
  | .ref a => match m a with
    | some (.dT kvs) => match y with
      | .tup ds => match keysD ds with
        | some k => kvs.length < sizeLine ∧ R (mput m a (.dT (putD kvs k d)))
        | none => False
      | _ => False
    | _ => False
  | _ => False
def sPutT (to ti tv : DTE) : DTS := fun E r m => tv r m fun d m1 => to r m1 fun x m2 => ti r m2 fun y m3 => gPutT x y d m3 (E.nx r)
theorem ds_putT (hu : X.A.units + 1 < cLine) (ho : DE X o to) (hi : DE X i ti) (hv : DE X value tv) (hs : swapsWith value (some (.Subscript o i pos')) pos.line X.env = pure false := by rfl) : DS X (.Assign [.Subscript o i pos'] value pos) (sPutT to ti tv) :=
  ⟨(ps_dput hu ho.p hi.p hv.p hs).of fun E' s H ⟨r, m, E, hs, M, h, q⟩ => ⟨r, m, _, hs, M, h, fun d m1 v H1 h1 s1 M1 q1 => ⟨r, m1, _, hs.keep s1.keep, M1, h1, fun x m2 w H2 h2 s2 M2 q2 => ⟨r, m2, _, hs.keep (s1.trans s2).keep, M2, h2, fun y m3 z H3 h3 s3 M3 q3 => by
    have st := (s1.trans s2).trans s3
    unfold gPutT at h3
    split at h3
    · rename_i a
      split at h3
      · rename_i kvs ek
        split at h3
        · rename_i ds
          split at h3
          · rename_i k eks
            obtain rfl := Rep.ref_.mp q2
            obtain ⟨b, xs, rfl, hb, rx⟩ := Rep.tup0.mp q3
            obtain ⟨vs, hv, rv⟩ := M3 _ _ ek
            rw [keysD_rep eks rx] at hb
            have rd := q1.keep (s2.trans s3).keep
            have kw : Keep X.K H3 (upd H3 a (.dT (putK vs k v))) := Keep.wr hv trivial
            exact ⟨a, _, rfl, DPut.t hv hb (by rw [← rv.length]; exact h3.1), q.nx _ _ _ _ h3.2 (st.trans (Step.wr hv trivial ek)) (M3.wr hv trivial ⟨_, upd_same, (rv.put rd).keep kw⟩) (hs.keep (st.trans (Step.wr (w := .dT kvs) hv trivial ek)).keep)⟩
          · exact h3.elim
        · exact h3.elim
      · exact h3.elim
    · exact h3.elim⟩⟩⟩⟩
/-- list(d): its keys -/
def nKeysT (te : DTE) : DTA := fun r m R => te r m fun x m1 => match x with
  | .ref a => match m1 a with
    | some (.dT kvs) => R (kvs.map fun kv => .tup (kv.1.map kD)) m1
    | _ => False
  | _ => False
theorem keys_rep {K : PySem.W.Frag} {H : Hp} : ∀ {kvs : List (List Key × D)} {vs : List (List Key × V)} {bs : List Addr}, RepK K H kvs vs → IsKeys H vs bs → Reps K H (kvs.map fun kv => .tup (kv.1.map kD)) (bs.map V.ref)
  | [], vs, bs, h, hb => by
    unfold RepK at h
    subst h
    unfold IsKeys at hb
    cases bs with
    | nil => unfold Reps; rfl
    | cons b bs => exact absurd hb (by intro z; cases z)
  | (c, d) :: kvs, vs, bs, h, hb => by
    unfold RepK at h
    obtain ⟨v, ws, rfl, h1, h2⟩ := h
    unfold IsKeys at hb
    cases bs with
    | nil => exact absurd hb (by intro z; cases z)
    | cons b bs =>
      cases hb with
      | cons h3 h4 =>
        rw [List.map_cons, List.map_cons, Reps]
        exact ⟨_, _, rfl, Rep.tup0.mpr ⟨b, _, rfl, h3, kDs_rep c⟩, keys_rep h2 h4⟩
theorem dn_keysT (hc : X.calm = true) (gl : Gl X "list") (hm : X.mg "list" = none) (ha : DE X e te) (he : starEach [e] X.env = (false, eval e X.env) :: starEach [] X.env := by rfl) (hpl : (backTo pos (starEach [] X.env)).any (·.1) = false := by rfl) : DN X (.Call (.Name "list" p) [e] [] pos) (nKeysT te) :=
  ⟨(pe_callTy (call_list_dT hc) gl hm (by decide +kernel) (pa_cons ha.p pa_nil he) (by decide) (by decide) he hpl).of fun s H Q ⟨r, m, R, hs, M, h, q⟩ => ⟨r, m, _, hs, M, h, fun x m1 v H1 h1 s1 M1 q1 => by
    split at h1
    · rename_i a
      split at h1
      · rename_i kvs ek
        obtain rfl := Rep.ref_.mp q1
        obtain ⟨vs, hv, rv⟩ := M1 _ _ ek
        exact ⟨a, vs, rfl, .inl hv, fun l bs hl hb => q _ _ _ _ _ h1 (s1.trans (Step.new hl)) (M1.new hl) upd_same (M1.free hl) (s1.th _ hl) ((keys_rep rv hb).keep (Keep.new hl))⟩
      · exact h1.elim
    · exact h1.elim⟩⟩
end
/-! is, is not: of two bools -/
def gIsB (neg : Bool) : G2 := fun x y m R => match x, y with
  | .bl a, .bl b => R (.bl (xor neg (decide (a = b)))) m
  | _, _ => False
section
variable {X : Cx} {a b : Expr} {ta tb : DTE} {pos : Pos}
theorem lift_isB {K : PySem.W.Frag} : Lift2 K (fun x y H Q => ∃ a b, x = .bl a ∧ y = .bl b ∧ Q (.bl (decide (a = b))) H) (gIsB false) := fun H m x y v w R Q M r1 r2 h1 q => by
  unfold gIsB at h1
  split at h1
  · rename_i c d
    rw [Bool.false_xor] at h1
    exact ⟨c, d, Rep.bl_.mp r1, Rep.bl_.mp r2, q.here h1 M (Rep.bl_.mpr rfl)⟩
  · exact h1.elim
theorem lift_notB {K : PySem.W.Frag} : Lift2 K (fun x y H Q => ∃ a b, x = .bl a ∧ y = .bl b ∧ Q (.bl (!decide (a = b))) H) (gIsB true) := fun H m x y v w R Q M r1 r2 h1 q => by
  unfold gIsB at h1
  split at h1
  · rename_i c d
    rw [Bool.true_xor] at h1
    exact ⟨c, d, Rep.bl_.mp r1, Rep.bl_.mp r2, q.here h1 M (Rep.bl_.mpr rfl)⟩
  · exact h1.elim
theorem de_isB (ha : DE X a ta) (hb : DE X b tb) : DE X (.Compare a [.Is] [b] pos) (d2 (gIsB false) ta tb) := de_cmp op_is_bl lift_isB ha hb (nomark _)
theorem de_notB (ha : DE X a ta) (hb : DE X b tb) : DE X (.Compare a [.IsNot] [b] pos) (d2 (gIsB true) ta tb) := de_cmp op_isnot_bl lift_notB ha hb (nomark _)
theorem dt_isB (ha : DE X a ta) (hb : DE X b tb) : DT X (.Compare a [.Is] [b] pos) (tBool (d2 (gIsB false) ta tb)) := dt_cmp op_is_bl lift_isB ha hb (nomark _)
theorem dt_notB (ha : DE X a ta) (hb : DE X b tb) : DT X (.Compare a [.IsNot] [b] pos) (tBool (d2 (gIsB true) ta tb)) := dt_cmp op_isnot_bl lift_notB ha hb (nomark _)
end
/-! any(xs) of a list of ints -/
theorem truth_ints {prog : Program} {w : World} {A : Around} {ns : List Int} {its : List Value} (r : Vals (ns.map V.int) its) :
    TruthOf prog w A (fun i v => its.toArray[i]? = some v) (fun i => (ns.map fun z => z != 0).getD i false) := fun i v s Q E hv hq => by
  have hv' : its[i]? = some v := by simpa using hv
  have hi : i < its.length := (List.getElem?_eq_some_iff.mp hv').1
  have hl : i < ns.length := by
    have := r.length
    rw [List.length_map] at this
    omega
  obtain ⟨u, h1, h2⟩ := Vals.get (i := i) (x := V.int ns[i]) r (by rw [List.getElem?_map, List.getElem?_eq_getElem hl]; rfl)
  rw [hv'] at h1
  cases h1
  obtain ⟨t, rfl⟩ := h2
  have hq' : Q ((ns.map fun z => z != 0).getD i false) s := hq
  rw [List.getD_eq_getElem?_getD, List.getElem?_map, List.getElem?_eq_getElem hl] at hq'
  exact PyProof.Rows.truthy_int hq'
section
variable {X : Cx} {e : Expr} {t : DTA} {p pos : Pos}
def rAnyI (K : PySem.W.Frag) : List V → Hp → VK → Prop := fun vs H Q => ∃ (a : Addr) (ns : List Int), vs = [V.ref a] ∧ SqL K H a (ns.map V.int) ∧ Q (.bl ((ns.map fun z => z != 0).any id)) H
theorem cr_anyI (hc : X.calm = true) : CallR X (.builtin "any") (rAnyI X.K) := by
  intro pins s σ H vs us Q I r h
  obtain ⟨a, ns, rfl, hs, q⟩ := h
  obtain ⟨its, rv, hl, _⟩ := I.list hs
  rw [Vals.ref1 r]
  refine call_any_walk (iter_any hl.isList fun s₂ e2 st hne => ?_)
  subst e2
  refine ⟨_, _, _, _, _, _, _, rfl, Walks.list (A := X.A.in1) (I.ok.hd hc) _ a hne its.toArray, st, truth_ints rv, fun h' tk hk => ?_⟩
  refine ⟨.bl _, H, I.kept fun b o eo => hk b o (fun hmem => ?_) (Heap.get?_push_of_some _ eo), ?_, q⟩
  · rcases List.mem_cons.mp hmem with e1 | hmem
    · exact absurd (e1 ▸ Heap.lt_size eo) (Nat.lt_irrefl _)
    · cases hmem
  · show Value.bool _ = Value.bool _
    rw [← L2.any_range, List.size_toArray, ← rv.length, List.length_map, List.length_map]
def gAnyI : List D → Mu → DK → Prop := fun ds m R => match intsOf ds with
  | some ns => R (.bl (ns.any fun z => z != 0)) m
  | none => False
theorem de_anyI (hc : X.calm = true) (gl : Gl X "any") (hm : X.mg "any" = none) (ha : DN X e t) (he : starEach [e] X.env = (false, eval e X.env) :: starEach [] X.env := by rfl) (hpl : (backTo pos (starEach [] X.env)).any (·.1) = false := by rfl) : DE X (.Call (.Name "any" p) [e] [] pos) (dN1 gAnyI t) :=
  ⟨(pe_callB (cr_anyI hc) gl hm (by decide +kernel) (pa_cons ha.p pa_nil he) (by decide) (by decide) he hpl).of fun s H Q ⟨r, m, R, hs, M, h, q⟩ => ⟨r, m, _, hs, M, h, fun ds m1 a xs H1 h1 s1 M1 ha hm hH rx => by
    unfold gAnyI at h1
    split at h1
    · rename_i ns en
      rw [intsOf_map en] at rx
      rw [rx.ints] at ha
      have h2 : R (.bl ((ns.map fun z => z != 0).any id)) m1 := by
        rw [List.any_map]
        exact h1
      exact ⟨a, ns, rfl, SqL.of ha, q _ _ _ _ h2 s1 M1 (Rep.bl_.mpr rfl)⟩
    · exact h1.elim⟩⟩
end
/-! comprehensions in comprehensions: the scope within -/
def relabelS (scope sc : Scope) : Scope := { scope with names := scope.names.map fun x => match x with
  | (n, k) => if (k == NameKind.free && sc.kind == ScopeKind.function && sc.names.lookup n == some NameKind.cell) = true then (n, NameKind.cell) else (n, k) }
theorem relab_eq (scope : Scope) (env : Env) : PySem.relabel scope env = relabelS scope env.scope := rfl
theorem relab {N : List Str} {sc scope : Scope} {own : List (Str × Nat)} {cl : List (Str × Addr)} {C : Addr} {env : Env} (h : blkC N (relabelS sc env.scope) scope own = true) : blkC N (compEnvC sc cl C env).scope scope own = true := h
theorem relab2 {N : List Str} {sc sc2 scope : Scope} {own : List (Str × Nat)} {cl cl2 : List (Str × Addr)} {C C2 : Addr} {env : Env} (h : blkC N (relabelS sc2 (relabelS sc env.scope)) scope own = true) : blkC N (compEnvC sc2 cl2 C2 (compEnvC sc cl C env)).scope scope own = true := h
end DL

/-! equations of the readings, for simp -/
namespace DL
open PySem PySem.Spec PyProof.Rows L2
/-- a bool; a row's items; a list at an address; an item by its place -/
def bK (x : D) (k : Bool → Prop) : Prop := match x with
  | .bl c => k c
  | _ => False
def lstK (o : Option O) (k : List D → Prop) : Prop := match o with
  | some (.lst ds) => k ds
  | _ => False
def atK (ds : List D) (i : Int) (k : D → Prop) : Prop := match atI ds i with
  | some d => k d
  | none => False
def setK (ds : List D) (i : Int) (d : D) (k : List D → Prop) : Prop := match ixN ds.length i with
  | some j => k (ds.set j d)
  | none => False
def intK (x : D) (k : Int → Prop) : Prop := match x with
  | .int i => k i
  | _ => False
def refK (x : D) (k : Addr → Prop) : Prop := match x with
  | .ref a => k a
  | _ => False
def optK {α : Type} (o : Option α) (k : α → Prop) : Prop := match o with
  | some x => k x
  | none => False
section
variable {m : Mu} {r : DSt} {R : DK} {E : DEnds} {ta tb tc te to : DTE} {t u : DTA} {i j : Int} {a b : Addr} {ds es : List D} {d e : D}
theorem bK_bl (c : Bool) (k : Bool → Prop) : bK (.bl c) k = k c := id rfl
theorem lstK_lst (ds : List D) (k : List D → Prop) : lstK (some (.lst ds)) k = k ds := id rfl
theorem intK_int (i : Int) (k : Int → Prop) : intK (.int i) k = k i := id rfl
theorem optK_some {α : Type} (x : α) (k : α → Prop) : optK (some x) k = k x := id rfl
theorem tBool_ (t : DTE) (R : Bool → Mu → Prop) : tBool t r m R = t r m fun x m1 => bK x fun c => R c m1 := id rfl
theorem dAndV_ : dAndV ta tb r m R = ta r m fun x m1 => bK x fun c => if c = true then tb r m1 R else R (.bl false) m1 := id rfl
theorem dOrV_ : dOrV ta tb r m R = ta r m fun x m1 => bK x fun c => if c = true then R (.bl true) m1 else tb r m1 R := id rfl
theorem dNotV_ : dNotV ta r m R = ta r m fun x m1 => bK x fun c => R (.bl (!c)) m1 := id rfl
theorem gI_ {C : Int → Int → Prop} {f : Int → Int → D} : gI C f (.int i) (.int j) m R = (C i j ∧ R (f i j) m) := id rfl
theorem gI0_ {f : Int → Int → D} : gI0 f (.int i) (.int j) m R = R (f i j) m := id rfl
theorem gAdd_int : gAdd (.int i) (.int j) m R = R (.int (i + j)) m := id rfl
theorem gAdd_str {x y : Str} : gAdd (.str x) (.str y) m R = (x.length + y.length ≤ sizeLine ∧ R (.str (x ++ y)) m) := id rfl
theorem gAdd_tup : gAdd (.tup ds) (.tup es) m R = (ds.length + es.length ≤ sizeLine ∧ R (.tup (ds ++ es)) m) := id rfl
theorem gAdd_ref : gAdd (.ref a) (.ref b) m R = lstK (m a) fun xs => lstK (m b) fun ys => xs.length + ys.length ≤ sizeLine ∧ ∀ c, m c = none → R (.ref c) (mput m c (.lst (xs ++ ys))) := by
  simp only [gAdd, lstK] <;> (generalize m a = o; generalize m b = o2; rcases o with _ | (_ | _ | _ | _) <;> rcases o2 with _ | (_ | _ | _ | _) <;> rfl)
theorem gNeg_ : gNeg (.int i) m R = R (.int (-i)) m := id rfl
theorem gIx_tup : gIx (.tup ds) (.int i) m R = atK ds i fun d => R d m := id rfl
theorem gIx_rl : gIx (.rl ds) (.int i) m R = atK ds i fun d => R d m := id rfl
theorem gIx_ref : gIx (.ref a) (.int i) m R = lstK (m a) fun ds => atK ds i fun d => R d m := by
  simp only [gIx, seqOf, lstK, atK] <;> (generalize m a = o; rcases o with _ | (_ | _ | _ | _) <;> rfl)
theorem gIx_str {z : Str} : gIx (.str z) (.int i) m R = (z.length ≤ sizeLine ∧ optK (atI z.cps.toList i) fun c => R (.str ⟨#[c]⟩) m) := by
  simp only [gIx, optK]
  cases atI z.cps.toList i <;> rfl
theorem atK_0 {x : D} {l : List D} {k : D → Prop} : atK (x :: l) 0 k = k x := by
  have e : atI (x :: l) 0 = some x := atI_nat (j := 0) rfl
  unfold atK; rw [e]
theorem atK_1 {x y : D} {l : List D} {k : D → Prop} : atK (x :: y :: l) 1 k = k y := by
  have e : atI (x :: y :: l) 1 = some y := atI_nat (j := 1) rfl
  unfold atK; rw [e]
theorem atK_2 {x y z : D} {l : List D} {k : D → Prop} : atK (x :: y :: z :: l) 2 k = k z := by
  have e : atI (x :: y :: z :: l) 2 = some z := atI_nat (j := 2) rfl
  unfold atK; rw [e]
theorem atK_3 {x y z w : D} {l : List D} {k : D → Prop} : atK (x :: y :: z :: w :: l) 3 k = k w := by
  have e : atI (x :: y :: z :: w :: l) 3 = some w := atI_nat (j := 3) rfl
  unfold atK; rw [e]
theorem atK_4 {x0 x1 x2 x3 x4 : D} {l : List D} {k : D → Prop} : atK (x0 :: x1 :: x2 :: x3 :: x4 :: l) 4 k = k x4 := by
  have e : atI (x0 :: x1 :: x2 :: x3 :: x4 :: l) 4 = some x4 := atI_nat (j := 4) rfl
  unfold atK; rw [e]
theorem atK_5 {x0 x1 x2 x3 x4 x5 : D} {l : List D} {k : D → Prop} : atK (x0 :: x1 :: x2 :: x3 :: x4 :: x5 :: l) 5 k = k x5 := by
  have e : atI (x0 :: x1 :: x2 :: x3 :: x4 :: x5 :: l) 5 = some x5 := atI_nat (j := 5) rfl
  unfold atK; rw [e]
theorem atK_6 {x0 x1 x2 x3 x4 x5 x6 : D} {l : List D} {k : D → Prop} : atK (x0 :: x1 :: x2 :: x3 :: x4 :: x5 :: x6 :: l) 6 k = k x6 := by
  have e : atI (x0 :: x1 :: x2 :: x3 :: x4 :: x5 :: x6 :: l) 6 = some x6 := atI_nat (j := 6) rfl
  unfold atK; rw [e]
theorem atK_7 {x0 x1 x2 x3 x4 x5 x6 x7 : D} {l : List D} {k : D → Prop} : atK (x0 :: x1 :: x2 :: x3 :: x4 :: x5 :: x6 :: x7 :: l) 7 k = k x7 := by
  have e : atI (x0 :: x1 :: x2 :: x3 :: x4 :: x5 :: x6 :: x7 :: l) 7 = some x7 := atI_nat (j := 7) rfl
  unfold atK; rw [e]
theorem atK_last {x : D} {l : List D} {k : D → Prop} : atK (l ++ [x]) (-1) k = k x := by
  unfold atK; rw [atI_last]
theorem atK_nat {l : List D} {n : Nat} {x : D} {k : D → Prop} (h : l[n]? = some x) : atK l (n : Int) k = k x := by
  unfold atK; rw [atI_nat h]
theorem atK_of {l : List D} {i : Int} {n : Nat} {x : D} {k : D → Prop} (e : i = n) (h : l[n]? = some x) (q : k x) : atK l i k := by
  subst e; rw [atK_nat h]; exact q
theorem setK_of {l : List D} {i : Int} {n : Nat} {x : D} {k : List D → Prop} (e : i = n) (h : n < l.length) (q : k (l.set n x)) : setK l i x k := by
  subst e
  unfold setK ixN
  rw [if_pos (by omega), if_pos (by omega)]
  exact q

theorem setK_0 {x0 y : D} {l : List D} {k : List D → Prop} : setK (x0 :: l) 0 y k = k (y :: l) := by
  apply propext
  constructor
  · intro h
    unfold setK ixN at h
    rw [if_pos (by omega), if_pos (by simp only [List.length_cons]; omega)] at h
    exact h
  · exact fun h => setK_of (n := 0) rfl (by simp only [List.length_cons]; omega) h
theorem setK_1 {x0 x1 y : D} {l : List D} {k : List D → Prop} : setK (x0 :: x1 :: l) 1 y k = k (x0 :: y :: l) := by
  apply propext
  constructor
  · intro h
    unfold setK ixN at h
    rw [if_pos (by omega), if_pos (by simp only [List.length_cons]; omega)] at h
    exact h
  · exact fun h => setK_of (n := 1) rfl (by simp only [List.length_cons]; omega) h
theorem setK_2 {x0 x1 x2 y : D} {l : List D} {k : List D → Prop} : setK (x0 :: x1 :: x2 :: l) 2 y k = k (x0 :: x1 :: y :: l) := by
  apply propext
  constructor
  · intro h
    unfold setK ixN at h
    rw [if_pos (by omega), if_pos (by simp only [List.length_cons]; omega)] at h
    exact h
  · exact fun h => setK_of (n := 2) rfl (by simp only [List.length_cons]; omega) h
theorem setK_3 {x0 x1 x2 x3 y : D} {l : List D} {k : List D → Prop} : setK (x0 :: x1 :: x2 :: x3 :: l) 3 y k = k (x0 :: x1 :: x2 :: y :: l) := by
  apply propext
  constructor
  · intro h
    unfold setK ixN at h
    rw [if_pos (by omega), if_pos (by simp only [List.length_cons]; omega)] at h
    exact h
  · exact fun h => setK_of (n := 3) rfl (by simp only [List.length_cons]; omega) h
theorem gLen_str {z : Str} : gLen [.str z] m R = (z.length ≤ sizeLine ∧ R (.int z.length) m) := id rfl
theorem gLen_tup : gLen [.tup ds] m R = R (.int ds.length) m := id rfl
theorem gLen_rl : gLen [.rl ds] m R = R (.int ds.length) m := id rfl
theorem gLen_ref : gLen [.ref a] m R = lstK (m a) fun ds => R (.int ds.length) m := by
  simp only [gLen, seqOf, lstK] <;> (generalize m a = o; rcases o with _ | (_ | _ | _ | _) <;> rfl)
theorem gTupleOf_tup : gTupleOf [.tup ds] m R = R (.tup ds) m := id rfl
theorem gTupleOf_rl : gTupleOf [.rl ds] m R = R (.tup ds) m := id rfl
theorem gTupleOf_ref : gTupleOf [.ref a] m R = lstK (m a) fun ds => R (.tup ds) m := by
  simp only [gTupleOf, seqOf, lstK] <;> (generalize m a = o; rcases o with _ | (_ | _ | _ | _) <;> rfl)
def seqK (m : Mu) (d : D) (k : List D → Prop) : Prop := match seqOf m d with
  | some ds => k ds
  | none => False
theorem seqK_tup {k : List D → Prop} : seqK m (.tup ds) k = k ds := id rfl
theorem seqK_rl {k : List D → Prop} : seqK m (.rl ds) k = k ds := id rfl
theorem seqK_ref {k : List D → Prop} : seqK m (.ref a) k = lstK (m a) k := by
  simp only [seqK, seqOf, lstK] <;> (generalize m a = o; rcases o with _ | (_ | _ | _ | _) <;> rfl)
theorem nListOf_ {R : List D → Mu → Prop} : nListOf te r m R = te r m fun d m1 => seqK m1 d fun xs => R xs m1 := id rfl
theorem isLst_ref : isLst m (.ref a) = ∃ xs, m a = some (.lst xs) := id rfl
theorem gAppend_ : gAppend (.ref a) [d] m R = lstK (m a) fun xs => xs.length < sizeLine ∧ R .non (mput m a (.lst (xs ++ [d]))) := by
  simp only [gAppend, lstK] <;> (generalize m a = o; rcases o with _ | (_ | _ | _ | _) <;> rfl)
theorem gInsert_ : gInsert (.ref a) [.int i, d] m R = lstK (m a) fun xs => xs.length < sizeLine ∧ 0 ≤ i ∧ i < 2 ^ 63 ∧ R .non (mput m a (.lst (xs.take i.toNat ++ [d] ++ xs.drop i.toNat))) := by
  simp only [gInsert, lstK] <;> (generalize m a = o; rcases o with _ | (_ | _ | _ | _) <;> rfl)
theorem isStr_str {z : Str} : isStr (.str z) = True := eq_true trivial
theorem strK_str {z : Str} {k : Str → Prop} : strK (.str z) k = k z := id rfl
theorem gStrCount_ {x y : Str} : gStrCount (.str x) [.str y] m R = R (.int (Txt.count x y)) m := id rfl
theorem dJoinN_ : dJoinN to t r m R = to r m fun x m1 => isStr x ∧ t r m1 fun ds m2 => strK x fun a => optK (strsOf ds) fun ys => (ys.map (·.length)).sum + ys.length * a.length ≤ 16777216 ∧ R (.str (Txt.join a ys)) m2 := by
  unfold dJoinN optK
  congr 1
  funext x m1
  congr 1
  congr 1
  funext ds m2
  congr 1
  funext a
  cases strsOf ds <;> rfl
theorem gPopAt_ : gPopAt (.ref a) [.int i] m R = lstK (m a) fun xs => (0 ≤ i ∧ i < 2 ^ 63) ∧ i < xs.length ∧ ∀ y, xs[i.toNat]? = some y → R y (mput m a (.lst (xs.eraseIdx i.toNat))) := by
  simp only [gPopAt, lstK] <;> (generalize m a = o; rcases o with _ | (_ | _ | _ | _) <;> rfl)
theorem nRange1_ {R : List D → Mu → Prop} : nRange1 te r m R = te r m fun x m1 => intK x fun j => (-(2 ^ 62) ≤ j ∧ j < 2 ^ 62 ∧ j.toNat ≤ 2 ^ 24) ∧ R (rngItems 0 j.toNat) m1 := id rfl
theorem gPop_ : gPop (.ref a) [] m R = lstK (m a) fun xs => optK xs[xs.length - 1]? fun y => R y (mput m a (.lst xs.dropLast)) := by
  simp only [gPop, lstK, optK]
  generalize m a = o
  rcases o with _ | (ds | _ | _ | _) <;> try rfl
  simp only
  cases ds[ds.length - 1]? <;> rfl

theorem refK_ref {k : Addr → Prop} : refK (.ref a) k = k a := id rfl
theorem lstK_eq (o : Option O) (k : List D → Prop) : (match o with | some (.lst ds) => k ds | _ => False) = lstK o k := id rfl
theorem dExtN_ : dExtN to t r m R = to r m fun x m1 => isLst m1 x ∧ t r m1 fun zs m2 => refK x fun a => lstK (m2 a) fun xs => xs.length + zs.length ≤ sizeLine ∧ R .non (mput m2 a (.lst (xs ++ zs))) := by
  rfl
theorem gExt_ : gExt (.ref a) [.ref b] m R = lstK (m a) fun xs => lstK (m b) fun ys => xs.length + ys.length ≤ sizeLine ∧ R .non (mput m a (.lst (xs ++ ys))) := by
  simp only [gExt, lstK] <;> (generalize m a = o; generalize m b = o2; rcases o with _ | (_ | _ | _ | _) <;> rcases o2 with _ | (_ | _ | _ | _) <;> rfl)
theorem gSetIx_ {ti : DTE} {R : DSt → Mu → Prop} : gSetIx to ti d r m R = to r m fun x m1 => ti r m1 fun y m2 => refK x fun a => intK y fun k => lstK (m2 a) fun xs => setK xs k d fun ys => R r (mput m2 a (.lst ys)) := by
  unfold gSetIx
  congr 1
  funext x m1
  congr 1
  funext y m2
  simp only [refK, intK, lstK, setK]
  cases x <;> cases y <;> rfl
def itK (o : Option DIt) (k : DIt → Prop) : Prop := match o with
  | some it => k it
  | none => False
theorem itK_some (it : DIt) (k : DIt → Prop) : itK (some it) k = k it := id rfl
theorem iRow_ {R : DIt → Mu → Prop} : iRow te r m R = te r m fun x m1 => itK (rowIt m1 x) fun it => R it m1 := id rfl
theorem rowIt_tup : rowIt m (.tup ds) = some ⟨ds, fun _ => True⟩ := id rfl
theorem rowIt_rl : rowIt m (.rl ds) = some ⟨ds, fun _ => True⟩ := id rfl
theorem rowIt_str {z : Str} : rowIt m (.str z) = some ⟨z.cps.toList.map fun c => D.str ⟨#[c]⟩, fun _ => True⟩ := id rfl
theorem rowIt_ref : rowIt m (.ref a) = match m a with
    | some (.lst ds) => some ⟨ds, fun m => m a = some (.lst ds)⟩
    | _ => none := id rfl
theorem rowIt_lst (h : m a = some (.lst ds)) : rowIt m (.ref a) = some ⟨ds, fun m => m a = some (.lst ds)⟩ := by rw [rowIt_ref, h]
theorem iRng1_ {R : DIt → Mu → Prop} : iRng1' te r m R = te r m fun x m1 => intK x fun j => (-(2 ^ 62) ≤ j ∧ j < 2 ^ 62) ∧ R ⟨rngItems 0 j.toNat, fun _ => True⟩ m1 := id rfl
theorem iRng2_ {R : DIt → Mu → Prop} : iRng2' ta tb r m R = ta r m fun x m1 => tb r m1 fun y m2 => intK x fun i => intK y fun j => (-(2 ^ 62) ≤ i ∧ i < 2 ^ 62 ∧ -(2 ^ 62) ≤ j ∧ j < 2 ^ 62) ∧ R ⟨rngItems i (j - i).toNat, fun _ => True⟩ m2 := by
  unfold iRng2'
  congr 1
  funext x m1
  congr 1
  funext y m2
  cases x <;> cases y <;> rfl
theorem iZip_ {R : DIt → Mu → Prop} : iZip' ta tb r m R = ta r m fun x m1 => tb r m1 fun y m2 => itK (rowIt m2 x) fun a => itK (rowIt m2 y) fun b => R ⟨zipItems a.items b.items, fun m => a.guard m ∧ b.guard m⟩ m2 := id rfl
theorem iEnum_ {R : DIt → Mu → Prop} : iEnum' ta r m R = ta r m fun x m1 => itK (rowIt m1 x) fun a => R ⟨enumItems a.items 0, a.guard⟩ m1 := id rfl
theorem gNil_ {R : DSt → Mu → Prop} : gNil' [] r m R = R r m := id rfl
theorem gCons_ {g : DTG} {gs : DTGs} {R : DSt → Mu → Prop} : gCons' g gs (d :: ds) r m R = g d r m fun r' m' => gs ds r' m' R := id rfl
theorem gTup_ {n : Nat} {gs : DTGs} {R : DSt → Mu → Prop} : gTup' n gs (.tup ds) r m R = (ds.length = n ∧ gs ds r m R) := id rfl
theorem gTup_ref {n : Nat} {gs : DTGs} {R : DSt → Mu → Prop} : gTup' n gs (.ref a) r m R = lstK (m a) fun ds => ds.length = n ∧ gs ds r m R := by
  simp only [gTup', lstK] <;> (generalize m a = o; rcases o with _ | (_ | _ | _ | _) <;> rfl)
theorem gAbs_ : gAbs [.int i] m R = R (.int (if i < 0 then -i else i)) m := id rfl
theorem gMax2_ : gMax2 [.int i, .int j] m R = R (.int (if j > i then j else i)) m := id rfl
theorem gMin2_ : gMin2 [.int i, .int j] m R = R (.int (if j < i then j else i)) m := id rfl
theorem gInt_int : gInt [.int i] m R = R (.int i) m := id rfl
theorem gInt_bl {c : Bool} : gInt [.bl c] m R = R (.int (if c then 1 else 0)) m := id rfl
theorem gLe_int : gLe (.int i) (.int j) m R = R (.bl (decide (i ≤ j))) m := id rfl
theorem gLe_tup {ns ms : List Int} (h1 : intsOf ds = some ns) (h2 : intsOf es = some ms) : gLe (.tup ds) (.tup es) m R = R (.bl (lexLe ns ms)) m := by
  unfold gLe; simp only [h1, h2]
theorem gIsN_non {neg : Bool} : gIsN neg .non m R = R (.bl (!neg)) m := id rfl
theorem gIsN_tup {neg : Bool} : gIsN neg (.tup ds) m R = R (.bl neg) m := id rfl
theorem gIsN_int {neg : Bool} : gIsN neg (.int i) m R = R (.bl neg) m := id rfl
theorem gIsN_str {neg : Bool} {z : Str} : gIsN neg (.str z) m R = R (.bl neg) m := id rfl
theorem gIsN_ref {neg : Bool} : gIsN neg (.ref a) m R = R (.bl neg) m := id rfl
theorem gIsN_bl {neg c : Bool} : gIsN neg (.bl c) m R = R (.bl neg) m := id rfl
theorem gIsi_ {c T : String} {k : Bool} (h1 : tyName m d = some T) (h2 : kitB T c = some k) : gIsi c d m R = R (.bl k) m := by
  unfold gIsi; simp only [h1, h2]
theorem isi_bool_bool {k : Bool} : gIsi "bool" (.bl k) m R = R (.bl true) m := gIsi_ (T := "bool") rfl (by decide +kernel)
theorem isi_bool_int : gIsi "bool" (.int i) m R = R (.bl false) m := gIsi_ (T := "int") rfl (by decide +kernel)
theorem isi_int_int : gIsi "int" (.int i) m R = R (.bl true) m := gIsi_ (T := "int") rfl (by decide +kernel)
theorem isi_int_bool {k : Bool} : gIsi "int" (.bl k) m R = R (.bl true) m := gIsi_ (T := "bool") rfl (by decide +kernel)
theorem isi_tuple_tup : gIsi "tuple" (.tup ds) m R = R (.bl true) m := gIsi_ (T := "tuple") rfl (by decide +kernel)
theorem isi_int_tup : gIsi "int" (.tup ds) m R = R (.bl false) m := gIsi_ (T := "tuple") rfl (by decide +kernel)
theorem isi_bool_tup : gIsi "bool" (.tup ds) m R = R (.bl false) m := gIsi_ (T := "tuple") rfl (by decide +kernel)
theorem isi_str_str {z : Str} : gIsi "str" (.str z) m R = R (.bl true) m := gIsi_ (T := "str") rfl (by decide +kernel)
theorem isi_tuple_int : gIsi "tuple" (.int i) m R = R (.bl false) m := gIsi_ (T := "int") rfl (by decide +kernel)
theorem isi_tuple_non : gIsi "tuple" .non m R = R (.bl false) m := gIsi_ (T := "NoneType") rfl (by decide +kernel)
/-! ### == -/
theorem gEq_int : gEq (.int i) (.int j) m R = R (.bl (decide (i = j))) m := by
  show R (.bl (i == j)) m = _
  congr 2
theorem gNe_int : gNe (.int i) (.int j) m R = R (.bl (!decide (i = j))) m := by
  show R (.bl (!(i == j))) m = _
  congr 2
theorem gEq_bl {x y : Bool} : gEq (.bl x) (.bl y) m R = R (.bl (x == y)) m := id rfl
theorem gNe_bl {x y : Bool} : gNe (.bl x) (.bl y) m R = R (.bl (!(x == y))) m := id rfl
theorem gEq_str {x y : Str} : gEq (.str x) (.str y) m R = R (.bl (decide (x = y))) m := id rfl
theorem gNe_str {x y : Str} : gNe (.str x) (.str y) m R = R (.bl (!decide (x = y))) m := id rfl
theorem gEq_int_non : gEq (.int i) .non m R = R (.bl false) m := id rfl
theorem gEq_of {x y : D} {p q : PyData} (hx : py m deep x = some p) (hy : py m deep y = some q) (h : R (.bl (PyData.eqv p q)) m) : gEq x y m R := by
  unfold gEq
  split
  · rename_i i j
    have e1 : p = .str i := by
      unfold py at hx; simp only at hx; split at hx <;> simp at hx; exact hx.symm
    have e2 : q = .str j := by
      unfold py at hy; simp only at hy; split at hy <;> simp at hy; exact hy.symm
    rw [e1, e2] at h
    unfold PyData.eqv at h
    exact h
  · simp only [hx, hy]; exact h
theorem gNe_of {x y : D} {p q : PyData} (hx : py m deep x = some p) (hy : py m deep y = some q) (h : R (.bl (!PyData.eqv p q)) m) : gNe x y m R := by
  unfold gNe
  split
  · rename_i i j
    have e1 : p = .str i := by
      unfold py at hx; simp only at hx; split at hx <;> simp at hx; exact hx.symm
    have e2 : q = .str j := by
      unfold py at hy; simp only at hy; split at hy <;> simp at hy; exact hy.symm
    rw [e1, e2] at h
    unfold PyData.eqv at h
    exact h
  · simp only [hx, hy]; exact h
/-- a held list against [] -/
theorem gEqN_nil {neg : Bool} : gEqN neg (.ref a) [] m R = match py m deep (.ref a) with
    | some p => R (.bl (xor neg (PyData.eqv p (.list [])))) m
    | none => False := by
  unfold gEqN pyAll
  rfl
/-! ### slices -/
theorem oNone_ {R : Option Int → Mu → Prop} : oNone r m R = R none m := id rfl
theorem oSome_ {R : Option Int → Mu → Prop} : oSome te r m R = te r m fun x m1 => intK x fun i => R (some i) m1 := id rfl
theorem gCut_str {z : Str} {lo hi : Option Int} : gCut lo hi (.str z) m R = (z.length ≤ sizeLine ∧ R (.str (cutS z lo hi)) m) := id rfl
theorem gCut_tup {lo hi : Option Int} : gCut lo hi (.tup ds) m R = R (.tup (cutD ds lo hi)) m := id rfl
theorem gCut_ref {lo hi : Option Int} : gCut lo hi (.ref a) m R = lstK (m a) fun ds => ∀ b, m b = none → R (.ref b) (mput m b (.lst (cutD ds lo hi))) := by
  simp only [gCut, seqOf, lstK] <;> (generalize m a = o; rcases o with _ | (_ | _ | _ | _) <;> rfl)
theorem gCut_rl {lo hi : Option Int} : gCut lo hi (.rl ds) m R = ∀ b, m b = none → R (.ref b) (mput m b (.lst (cutD ds lo hi))) := id rfl
/-- the items of a held or read list -/
def rowK (m : Mu) (x : D) (k : List D → Prop) : Prop := match x with
  | .tup _ => False
  | x => match seqOf m x with
    | some ds => k ds
    | none => False
theorem rowK_rl {k : List D → Prop} : rowK m (.rl ds) k = k ds := id rfl
theorem rowK_ref {k : List D → Prop} : rowK m (.ref a) k = lstK (m a) k := by
  simp only [rowK, seqOf, lstK] <;> (generalize m a = o; rcases o with _ | (_ | _ | _ | _) <;> rfl)
theorem nCut_ {tl th : DTO} {R : List D → Mu → Prop} : nCut te tl th r m R = te r m fun x m1 => tl r m1 fun l m2 => th r m2 fun u m3 => rowK m3 x fun ds => R (cutD ds l u) m3 := by
  rfl
theorem nSorted_ {R : List D → Mu → Prop} : nSorted te r m R = te r m fun x m1 => rowK m1 x fun ds => gSorted1 ds m1 R := id rfl
theorem gSorted1_ {R : List D → Mu → Prop} : gSorted1 ds m R = optK (intsOf ds) fun ns => ns.length < 64 ∧ ∀ ns' : List Int, ns'.Perm ns → ns'.Pairwise (· ≤ ·) → R (ns'.map D.int) m := by
  unfold gSorted1 optK
  cases intsOf ds <;> rfl
theorem nRev_ {R : List D → Mu → Prop} : nRev te r m R = te r m fun x m1 => rowK m1 x fun ds => R ds.reverse m1 := id rfl
theorem nCatEN_ {R : List D → Mu → Prop} : nCatEN ta u r m R = ta r m fun x m1 => u r m1 fun ys m2 => refK x fun a => lstK (m2 a) fun xs => xs.length + ys.length ≤ sizeLine ∧ R (xs ++ ys) m2 := by
  rfl
theorem nRep_ {R : List D → Mu → Prop} : nRep t tb r m R = t r m fun xs m1 => tb r m1 fun y m2 => intK y fun k => (-(2 ^ 63) ≤ k ∧ k < 2 ^ 63 ∧ xs.length * k.toNat ≤ sizeLine) ∧ R (List.replicate k.toNat xs).flatten m2 := id rfl
def tupK (x : D) (k : List D → Prop) : Prop := match x with
  | .tup ds => k ds
  | _ => False
theorem tupK_tup {k : List D → Prop} : tupK (.tup ds) k = k ds := id rfl
theorem keysD_two : keysD [.int i, .int j] = some [.inl i, .inl j] := id rfl
def dtK (o : Option O) (k : List (List Key × D) → Prop) : Prop := match o with
  | some (.dT kvs) => k kvs
  | _ => False
theorem dtK_dT (kvs : List (List Key × D)) (k : List (List Key × D) → Prop) : dtK (some (.dT kvs)) k = k kvs := id rfl
theorem gGetT_ : gGetT (.ref a) (.tup ds) m R = dtK (m a) fun kvs => optK (keysD ds) fun k => optK (valD kvs k) fun d => R d m := by
  simp only [gGetT, dtK, optK]
  generalize m a = o
  rcases o with _ | (_ | _ | _ | kvs) <;> try rfl
  simp only
  cases keysD ds <;> try rfl
  rename_i k
  simp only
  cases valD kvs k <;> rfl
theorem gPutT_ {R : Mu → Prop} : gPutT (.ref a) (.tup ds) d m R = dtK (m a) fun kvs => optK (keysD ds) fun k => kvs.length < sizeLine ∧ R (mput m a (.dT (putD kvs k d))) := by
  simp only [gPutT, dtK, optK]
  generalize m a = o
  rcases o with _ | (_ | _ | _ | kvs) <;> try rfl
  simp only
  cases keysD ds <;> rfl
theorem nKeysT_ {R : List D → Mu → Prop} : nKeysT te r m R = te r m fun x m1 => refK x fun a => dtK (m1 a) fun kvs => R (kvs.map fun kv => .tup (kv.1.map kD)) m1 := id rfl
theorem gIsB_ {neg c c2 : Bool} : gIsB neg (.bl c) (.bl c2) m R = R (.bl (xor neg (decide (c = c2)))) m := id rfl
theorem nRepE_ {R : List D → Mu → Prop} : nRepE ta tb r m R = ta r m fun x m1 => tb r m1 fun y m2 => refK x fun a => lstK (m2 a) fun xs => intK y fun k => (-(2 ^ 63) ≤ k ∧ k < 2 ^ 63 ∧ xs.length * k.toNat ≤ sizeLine) ∧ R (List.replicate k.toNat xs).flatten m2 := id rfl
theorem dIxN_ : dIxN t tb r m R = t r m fun xs m1 => tb r m1 fun y m2 => intK y fun i => atK xs i fun d => R d m2 := id rfl
theorem gSumN_ : gSumN ds m R = optK (intsOf ds) fun ns => R (.int ns.sum) m := by
  unfold gSumN optK
  cases intsOf ds <;> rfl
theorem gAllN_ : gAllN ds m R = optK (boolsOf ds) fun ns => R (.bl (ns.all id)) m := by
  unfold gAllN optK
  cases boolsOf ds <;> rfl
theorem gAnyN_ : gAnyN ds m R = optK (boolsOf ds) fun ns => R (.bl (ns.any id)) m := by
  unfold gAnyN optK
  cases boolsOf ds <;> rfl
theorem gAnyI_ : gAnyI ds m R = optK (intsOf ds) fun ns => R (.bl (ns.any fun z => z != 0)) m := by
  unfold gAnyI optK
  cases intsOf ds <;> rfl
theorem gMaxN_ : gMaxN ds m R = optK (intsOf ds) fun ns => 0 < ns.length ∧ ∀ z, z ∈ ns → (∀ y, y ∈ ns → y ≤ z) → R (.int z) m := by
  unfold gMaxN optK
  cases intsOf ds <;> rfl
theorem gMax1_rl : gMax1 [.rl ds] m R = gMaxN ds m R := id rfl
theorem gMax1_ref : gMax1 [.ref a] m R = lstK (m a) fun ds => gMaxN ds m R := by
  simp only [gMax1, seqOf, lstK] <;> (generalize m a = o; rcases o with _ | (_ | _ | _ | _) <;> rfl)
theorem gMinN_ : gMinN ds m R = optK (intsOf ds) fun ns => 0 < ns.length ∧ ∀ z, z ∈ ns → (∀ y, y ∈ ns → z ≤ y) → R (.int z) m := by
  unfold gMinN optK
  cases intsOf ds <;> rfl
theorem gMin1_rl : gMin1 [.rl ds] m R = gMinN ds m R := id rfl
theorem gMin1_ref : gMin1 [.ref a] m R = lstK (m a) fun ds => gMinN ds m R := by
  simp only [gMin1, seqOf, lstK] <;> (generalize m a = o; rcases o with _ | (_ | _ | _ | _) <;> rfl)
theorem gSum_rl : gSum [.rl ds] m R = gSumN ds m R := id rfl
theorem gSum_ref : gSum [.ref a] m R = lstK (m a) fun ds => gSumN ds m R := by
  simp only [gSum, seqOf, lstK] <;> (generalize m a = o; rcases o with _ | (_ | _ | _ | _) <;> rfl)
theorem dChain_ {g g' : G2} : dChain g g' ta tb tc r m R = ta r m fun x m1 => tb r m1 fun y m2 => g x y m2 fun z m3 => bK z fun k => if k = true then tc r m3 fun w m4 => g' y w m4 R else R (.bl false) m3 := id rfl
theorem sAug_ {n : Nat} {g : G2} : sAug n te g E r m = dVar n r m fun x _ => te r m fun y m1 => g x y m1 fun z m2 => E.nx (r.set n (some z)) m2 := by
  unfold sAug dVar
  rfl
theorem gIn_ {neg : Bool} : gIn neg d e m R = optK (py m deep d) fun p => seqK m e fun ds => optK (pyAll (py m deep) ds) fun qs => R (.bl (xor neg (qs.any fun z => PyData.eqv z p))) m := by
  unfold gIn optK seqK
  cases py m deep d <;> try rfl
  cases seqOf m e <;> try rfl
  rename_i ds
  simp only
  cases pyAll (py m deep) ds <;> rfl
theorem gInN_ {neg : Bool} : gInN neg d ds m R = optK (py m deep d) fun p => optK (pyAll (py m deep) ds) fun qs => R (.bl (xor neg (qs.any fun z => PyData.eqv z p))) m := by
  unfold gInN optK
  cases py m deep d <;> try rfl
  simp only
  cases pyAll (py m deep) ds <;> rfl
theorem gEqNN_ {neg : Bool} : gEqNN neg ds es m R = optK (pyAll (py m deep) ds) fun ps => optK (pyAll (py m deep) es) fun qs => R (.bl (xor neg (PyData.eqv (.list ps) (.list qs)))) m := by
  unfold gEqNN optK
  cases pyAll (py m deep) ds <;> try rfl
  simp only
  cases pyAll (py m deep) es <;> rfl
theorem gIndex_ : gIndex (.ref a) [d] m R = lstK (m a) fun xs => optK (py m deep d) fun p => optK (pyAll (py m deep) xs) fun ps => optK (ps.findIdx? fun z => PyData.eqv z p) fun j => R (.int (j : Nat)) m := by
  simp only [gIndex, lstK, optK]
  generalize m a = o
  rcases o with _ | (ds | _ | _ | _) <;> try rfl
  simp only
  cases py m deep d <;> try rfl
  rename_i p
  simp only
  cases pyAll (py m deep) ds <;> try rfl
  rename_i ps
  simp only
  cases ps.findIdx? fun z => PyData.eqv z p <;> rfl
theorem dVar_0 {r : DSt} : dVar 0 (some d :: r) m R = R d m := id rfl
theorem dVar_1 {o0 : Option D} {r : DSt} : dVar 1 (o0 :: some d :: r) m R = R d m := id rfl
theorem dVar_2 {o0 o1 : Option D} {r : DSt} : dVar 2 (o0 :: o1 :: some d :: r) m R = R d m := id rfl
theorem dVar_3 {o0 o1 o2 : Option D} {r : DSt} : dVar 3 (o0 :: o1 :: o2 :: some d :: r) m R = R d m := id rfl
theorem dVar_4 {o0 o1 o2 o3 : Option D} {r : DSt} : dVar 4 (o0 :: o1 :: o2 :: o3 :: some d :: r) m R = R d m := id rfl
theorem dVar_5 {o0 o1 o2 o3 o4 : Option D} {r : DSt} : dVar 5 (o0 :: o1 :: o2 :: o3 :: o4 :: some d :: r) m R = R d m := id rfl
theorem dVar_6 {o0 o1 o2 o3 o4 o5 : Option D} {r : DSt} : dVar 6 (o0 :: o1 :: o2 :: o3 :: o4 :: o5 :: some d :: r) m R = R d m := id rfl
theorem dVar_7 {o0 o1 o2 o3 o4 o5 o6 : Option D} {r : DSt} : dVar 7 (o0 :: o1 :: o2 :: o3 :: o4 :: o5 :: o6 :: some d :: r) m R = R d m := id rfl
theorem dVar_8 {o0 o1 o2 o3 o4 o5 o6 o7 : Option D} {r : DSt} : dVar 8 (o0 :: o1 :: o2 :: o3 :: o4 :: o5 :: o6 :: o7 :: some d :: r) m R = R d m := id rfl
theorem dVar_9 {o0 o1 o2 o3 o4 o5 o6 o7 o8 : Option D} {r : DSt} : dVar 9 (o0 :: o1 :: o2 :: o3 :: o4 :: o5 :: o6 :: o7 :: o8 :: some d :: r) m R = R d m := id rfl
theorem dVar_10 {o0 o1 o2 o3 o4 o5 o6 o7 o8 o9 : Option D} {r : DSt} : dVar 10 (o0 :: o1 :: o2 :: o3 :: o4 :: o5 :: o6 :: o7 :: o8 :: o9 :: some d :: r) m R = R d m := id rfl
theorem dVar_11 {o0 o1 o2 o3 o4 o5 o6 o7 o8 o9 o10 : Option D} {r : DSt} : dVar 11 (o0 :: o1 :: o2 :: o3 :: o4 :: o5 :: o6 :: o7 :: o8 :: o9 :: o10 :: some d :: r) m R = R d m := id rfl
theorem dVar_12 {o0 o1 o2 o3 o4 o5 o6 o7 o8 o9 o10 o11 : Option D} {r : DSt} : dVar 12 (o0 :: o1 :: o2 :: o3 :: o4 :: o5 :: o6 :: o7 :: o8 :: o9 :: o10 :: o11 :: some d :: r) m R = R d m := id rfl
theorem dVar_13 {o0 o1 o2 o3 o4 o5 o6 o7 o8 o9 o10 o11 o12 : Option D} {r : DSt} : dVar 13 (o0 :: o1 :: o2 :: o3 :: o4 :: o5 :: o6 :: o7 :: o8 :: o9 :: o10 :: o11 :: o12 :: some d :: r) m R = R d m := id rfl
theorem dVar_14 {o0 o1 o2 o3 o4 o5 o6 o7 o8 o9 o10 o11 o12 o13 : Option D} {r : DSt} : dVar 14 (o0 :: o1 :: o2 :: o3 :: o4 :: o5 :: o6 :: o7 :: o8 :: o9 :: o10 :: o11 :: o12 :: o13 :: some d :: r) m R = R d m := id rfl
theorem dVar_15 {o0 o1 o2 o3 o4 o5 o6 o7 o8 o9 o10 o11 o12 o13 o14 : Option D} {r : DSt} : dVar 15 (o0 :: o1 :: o2 :: o3 :: o4 :: o5 :: o6 :: o7 :: o8 :: o9 :: o10 :: o11 :: o12 :: o13 :: o14 :: some d :: r) m R = R d m := id rfl
theorem dVar_16 {o0 o1 o2 o3 o4 o5 o6 o7 o8 o9 o10 o11 o12 o13 o14 o15 : Option D} {r : DSt} : dVar 16 (o0 :: o1 :: o2 :: o3 :: o4 :: o5 :: o6 :: o7 :: o8 :: o9 :: o10 :: o11 :: o12 :: o13 :: o14 :: o15 :: some d :: r) m R = R d m := id rfl
theorem dVar_17 {o0 o1 o2 o3 o4 o5 o6 o7 o8 o9 o10 o11 o12 o13 o14 o15 o16 : Option D} {r : DSt} : dVar 17 (o0 :: o1 :: o2 :: o3 :: o4 :: o5 :: o6 :: o7 :: o8 :: o9 :: o10 :: o11 :: o12 :: o13 :: o14 :: o15 :: o16 :: some d :: r) m R = R d m := id rfl
theorem dVar_18 {o0 o1 o2 o3 o4 o5 o6 o7 o8 o9 o10 o11 o12 o13 o14 o15 o16 o17 : Option D} {r : DSt} : dVar 18 (o0 :: o1 :: o2 :: o3 :: o4 :: o5 :: o6 :: o7 :: o8 :: o9 :: o10 :: o11 :: o12 :: o13 :: o14 :: o15 :: o16 :: o17 :: some d :: r) m R = R d m := id rfl
theorem dVar_19 {o0 o1 o2 o3 o4 o5 o6 o7 o8 o9 o10 o11 o12 o13 o14 o15 o16 o17 o18 : Option D} {r : DSt} : dVar 19 (o0 :: o1 :: o2 :: o3 :: o4 :: o5 :: o6 :: o7 :: o8 :: o9 :: o10 :: o11 :: o12 :: o13 :: o14 :: o15 :: o16 :: o17 :: o18 :: some d :: r) m R = R d m := id rfl
theorem dVar_20 {o0 o1 o2 o3 o4 o5 o6 o7 o8 o9 o10 o11 o12 o13 o14 o15 o16 o17 o18 o19 : Option D} {r : DSt} : dVar 20 (o0 :: o1 :: o2 :: o3 :: o4 :: o5 :: o6 :: o7 :: o8 :: o9 :: o10 :: o11 :: o12 :: o13 :: o14 :: o15 :: o16 :: o17 :: o18 :: o19 :: some d :: r) m R = R d m := id rfl
theorem dVar_21 {o0 o1 o2 o3 o4 o5 o6 o7 o8 o9 o10 o11 o12 o13 o14 o15 o16 o17 o18 o19 o20 : Option D} {r : DSt} : dVar 21 (o0 :: o1 :: o2 :: o3 :: o4 :: o5 :: o6 :: o7 :: o8 :: o9 :: o10 :: o11 :: o12 :: o13 :: o14 :: o15 :: o16 :: o17 :: o18 :: o19 :: o20 :: some d :: r) m R = R d m := id rfl
theorem dVar_22 {o0 o1 o2 o3 o4 o5 o6 o7 o8 o9 o10 o11 o12 o13 o14 o15 o16 o17 o18 o19 o20 o21 : Option D} {r : DSt} : dVar 22 (o0 :: o1 :: o2 :: o3 :: o4 :: o5 :: o6 :: o7 :: o8 :: o9 :: o10 :: o11 :: o12 :: o13 :: o14 :: o15 :: o16 :: o17 :: o18 :: o19 :: o20 :: o21 :: some d :: r) m R = R d m := id rfl
theorem dVar_23 {o0 o1 o2 o3 o4 o5 o6 o7 o8 o9 o10 o11 o12 o13 o14 o15 o16 o17 o18 o19 o20 o21 o22 : Option D} {r : DSt} : dVar 23 (o0 :: o1 :: o2 :: o3 :: o4 :: o5 :: o6 :: o7 :: o8 :: o9 :: o10 :: o11 :: o12 :: o13 :: o14 :: o15 :: o16 :: o17 :: o18 :: o19 :: o20 :: o21 :: o22 :: some d :: r) m R = R d m := id rfl
theorem dVar_24 {o0 o1 o2 o3 o4 o5 o6 o7 o8 o9 o10 o11 o12 o13 o14 o15 o16 o17 o18 o19 o20 o21 o22 o23 : Option D} {r : DSt} : dVar 24 (o0 :: o1 :: o2 :: o3 :: o4 :: o5 :: o6 :: o7 :: o8 :: o9 :: o10 :: o11 :: o12 :: o13 :: o14 :: o15 :: o16 :: o17 :: o18 :: o19 :: o20 :: o21 :: o22 :: o23 :: some d :: r) m R = R d m := id rfl
theorem dVar_25 {o0 o1 o2 o3 o4 o5 o6 o7 o8 o9 o10 o11 o12 o13 o14 o15 o16 o17 o18 o19 o20 o21 o22 o23 o24 : Option D} {r : DSt} : dVar 25 (o0 :: o1 :: o2 :: o3 :: o4 :: o5 :: o6 :: o7 :: o8 :: o9 :: o10 :: o11 :: o12 :: o13 :: o14 :: o15 :: o16 :: o17 :: o18 :: o19 :: o20 :: o21 :: o22 :: o23 :: o24 :: some d :: r) m R = R d m := id rfl
theorem sz_0 : ((0 : Nat) ≤ sizeLine) = True := eq_true (by decide)
theorem sz_1 : ((1 : Nat) ≤ sizeLine) = True := eq_true (by decide)
theorem sz_2 : ((2 : Nat) ≤ sizeLine) = True := eq_true (by decide)
theorem sz_3 : ((3 : Nat) ≤ sizeLine) = True := eq_true (by decide)
theorem sz_4 : ((4 : Nat) ≤ sizeLine) = True := eq_true (by decide)
theorem sz_5 : ((5 : Nat) ≤ sizeLine) = True := eq_true (by decide)
theorem sz_6 : ((6 : Nat) ≤ sizeLine) = True := eq_true (by decide)
theorem sz_7 : ((7 : Nat) ≤ sizeLine) = True := eq_true (by decide)
theorem sz_8 : ((8 : Nat) ≤ sizeLine) = True := eq_true (by decide)
theorem sz_9 : ((9 : Nat) ≤ sizeLine) = True := eq_true (by decide)
theorem sz_10 : ((10 : Nat) ≤ sizeLine) = True := eq_true (by decide)
theorem sz_11 : ((11 : Nat) ≤ sizeLine) = True := eq_true (by decide)
theorem sz_12 : ((12 : Nat) ≤ sizeLine) = True := eq_true (by decide)
theorem sz_13 : ((13 : Nat) ≤ sizeLine) = True := eq_true (by decide)
end
theorem u_dNewT  (z0 : DSt) (m : Mu) (R : DK) : dNewT z0 m R = (∀ a, m a = none → R (.ref a) (mput m a (.dT []))) := id rfl
theorem u_sPutT (to ti tv : DTE) (E : DEnds) (r : DSt) (m : Mu) : sPutT to ti tv E r m = (tv r m fun d m1 => to r m1 fun x m2 => ti r m2 fun y m3 => gPutT x y d m3 (E.nx r)) := id rfl
theorem u_sSeq (t u : DTS) (E : DEnds) (r : DSt) (m : Mu) : sSeq t u E r m = (t { E with nx := u E } r m) := id rfl
theorem u_sNext  (E : DEnds) (r : DSt) (m : Mu) : sNext E r m = (E.nx r m) := id rfl
theorem u_sSet (i : Nat) (te : DTE) (E : DEnds) (r : DSt) (m : Mu) : sSet i te E r m = (te r m fun x m1 => E.nx (r.set i (some x)) m1) := id rfl
theorem u_sSetN (i : Nat) (t : DTA) (E : DEnds) (r : DSt) (m : Mu) : sSetN i t E r m = (t r m fun xs m1 => ∀ a, m1 a = none → E.nx (r.set i (some (.ref a))) (mput m1 a (.lst xs))) := id rfl
theorem u_sAsg (te : DTE) (g : DTG) (E : DEnds) (r : DSt) (m : Mu) : sAsg te g E r m = (te r m fun x m1 => g x r m1 E.nx) := id rfl
theorem u_sIf (c : DTT) (t u : DTS) (E : DEnds) (r : DSt) (m : Mu) : sIf c t u E r m = (c r m fun b m1 => if b = true then t E r m1 else u E r m1) := id rfl
theorem u_sRet (te : DTE) (E : DEnds) (r : DSt) (m : Mu) : sRet te E r m = (te r m E.rt) := id rfl
theorem u_sRetN  (E : DEnds) (z1 : DSt) (m : Mu) : sRetN E z1 m = (E.rt .non m) := id rfl
theorem u_sDrop (te : DTE) (E : DEnds) (r : DSt) (m : Mu) : sDrop te E r m = (te r m fun _ m1 => E.nx r m1) := id rfl
theorem u_sPar (i j : Nat) (ta tb : DTE) (E : DEnds) (r : DSt) (m : Mu) : sPar i j ta tb E r m = (ta r m fun x m1 => tb r m1 fun y m2 => E.nx ((r.set i (some x)).set j (some y)) m2) := id rfl
theorem u_sFor (wi : DTI) (g : DTG) (tb : DTS) (E : DEnds) (r : DSt) (m : Mu) : sFor wi g tb E r m = (wi r m fun it m1 => forL it.guard g tb it.items E r m1) := id rfl
theorem u_sBreak  (E : DEnds) (r : DSt) (m : Mu) : sBreak E r m = (E.bk r m) := id rfl
theorem u_sCont  (E : DEnds) (r : DSt) (m : Mu) : sCont E r m = (E.ct r m) := id rfl
theorem u_dC (d : D) (z0 : DSt) (m : Mu) (R : DK) : dC d z0 m R = (R d m) := id rfl
theorem u_d2 (g : G2) (ta tb : DTE) (r : DSt) (m : Mu) (R : DK) : d2 g ta tb r m R = (ta r m fun x m1 => tb r m1 fun y m2 => g x y m2 R) := id rfl
theorem u_d1 (g : D → Mu → DK → Prop) (ta : DTE) (r : DSt) (m : Mu) (R : DK) : d1 g ta r m R = (ta r m fun x m1 => g x m1 R) := id rfl
theorem u_dTup (t : DTA) (r : DSt) (m : Mu) (R : DK) : dTup t r m R = (t r m fun xs m1 => xs.length ≤ sizeLine ∧ R (.tup xs) m1) := id rfl
theorem u_dNew (t : DTA) (r : DSt) (m : Mu) (R : DK) : dNew t r m R = (t r m fun xs m1 => ∀ a, m1 a = none → R (.ref a) (mput m1 a (.lst xs))) := id rfl
theorem u_aNil  (z0 : DSt) (m : Mu) (R : List D → Mu → Prop) : aNil z0 m R = (R [] m) := id rfl
theorem u_aCons (ta : DTE) (tr : DTA) (r : DSt) (m : Mu) (R : List D → Mu → Prop) : aCons ta tr r m R = (ta r m fun x m1 => tr r m1 fun xs m2 => R (x :: xs) m2) := id rfl
theorem u_nLst (t : DTA) (r : DSt) (m : Mu) (R : List D → Mu → Prop) : nLst t r m R = (t r m fun xs m1 => xs.length ≤ sizeLine ∧ R xs m1) := id rfl
theorem u_tAnd' (t u : DTT) (r : DSt) (m : Mu) (R : Bool → Mu → Prop) : tAnd' t u r m R = (t r m fun c m1 => if c = true then u r m1 R else R false m1) := id rfl
theorem u_tOr' (t u : DTT) (r : DSt) (m : Mu) (R : Bool → Mu → Prop) : tOr' t u r m R = (t r m fun c m1 => if c = true then R true m1 else u r m1 R) := id rfl
theorem u_tNot' (t : DTT) (r : DSt) (m : Mu) (R : Bool → Mu → Prop) : tNot' t r m R = (t r m fun c m1 => R (!c) m1) := id rfl
theorem u_dIf (t : DTT) (ta tb : DTE) (r : DSt) (m : Mu) (R : DK) : dIf t ta tb r m R = (t r m fun c m1 => if c = true then ta r m1 R else tb r m1 R) := id rfl
theorem u_gName' (i : Nat) (d : D) (r : DSt) (m : Mu) (R : DSt → Mu → Prop) : gName' i d r m R = (R (r.set i (some d)) m) := id rfl
theorem u_dCall (sp : DSp) (t : DTA) (r : DSt) (m : Mu) (R : DK) : dCall sp t r m R = (t r m fun ds m1 => sp ds m1 R X0) := id rfl
theorem u_dB (g : List D → Mu → DK → Prop) (t : DTA) (r : DSt) (m : Mu) (R : DK) : dB g t r m R = (t r m fun ds m1 => g ds m1 R) := id rfl
theorem u_dLenN (t : DTA) (r : DSt) (m : Mu) (R : DK) : dLenN t r m R = (t r m fun xs m1 => R (.int xs.length) m1) := id rfl
theorem u_dTupN (t : DTA) (r : DSt) (m : Mu) (R : DK) : dTupN t r m R = (t r m fun xs m1 => R (.tup xs) m1) := id rfl
theorem u_dM (g : D → List D → Mu → DK → Prop) (to : DTE) (t : DTA) (r : DSt) (m : Mu) (R : DK) : dM g to t r m R = (to r m fun x m1 => isLst m1 x ∧ t r m1 fun xs m2 => g x xs m2 R) := id rfl
theorem u_iNew (t : DTA) (r : DSt) (m : Mu) (R : DIt → Mu → Prop) : iNew t r m R = (t r m fun ds m1 => R ⟨ds, fun _ => True⟩ m1) := id rfl
theorem u_nLc (wi : DTI) (g : DTG) (tt : DTT) (te : DTE) (vs : List Nat) (r : DSt) (m : Mu) (R : List D → Mu → Prop) : nLc wi g tt te vs r m R = (wi r m fun it m1 => lcL it.guard g tt te (dwipe r vs) it.items [] m1 R) := id rfl
theorem u_dN1 (g : List D → Mu → DK → Prop) (t : DTA) (r : DSt) (m : Mu) (R : DK) : dN1 g t r m R = (t r m fun xs m1 => g xs m1 R) := id rfl
theorem u_dCut (te : DTE) (tl th : DTO) (r : DSt) (m : Mu) (R : DK) : dCut te tl th r m R = (te r m fun x m1 => tl r m1 fun l m2 => th r m2 fun u m3 => gCut l u x m3 R) := id rfl
theorem u_nCutN (t : DTA) (tl th : DTO) (r : DSt) (m : Mu) (R : List D → Mu → Prop) : nCutN t tl th r m R = (t r m fun ds m1 => tl r m1 fun l m2 => th r m2 fun u m3 => R (cutD ds l u) m3) := id rfl
theorem u_nCatNN (t u : DTA) (r : DSt) (m : Mu) (R : List D → Mu → Prop) : nCatNN t u r m R = (t r m fun xs m1 => u r m1 fun ys m2 => xs.length + ys.length ≤ sizeLine ∧ R (xs ++ ys) m2) := id rfl
theorem u_d2N (g : D → List D → Mu → DK → Prop) (ta : DTE) (t : DTA) (r : DSt) (m : Mu) (R : DK) : d2N g ta t r m R = (ta r m fun x m1 => t r m1 fun ys m2 => g x ys m2 R) := id rfl
theorem u_dNN (g : List D → List D → Mu → DK → Prop) (t u : DTA) (r : DSt) (m : Mu) (R : DK) : dNN g t u r m R = (t r m fun xs m1 => u r m1 fun ys m2 => g xs ys m2 R) := id rfl
theorem u_tYes'  (z0 : DSt) (m : Mu) (R : Bool → Mu → Prop) : tYes' z0 m R = (R true m) := id rfl
theorem u_dS (g : D → List D → Mu → DK → Prop) (to : DTE) (t : DTA) (r : DSt) (m : Mu) (R : DK) : dS g to t r m R = (to r m fun x m1 => isStr x ∧ t r m1 fun xs m2 => g x xs m2 R) := id rfl
end DL

namespace DL
open PySem PySem.Spec PyProof.Rows L2
/-! ### common to all laws -/
/-- the law's start: the script is a list that is only read -/
theorem law_start {K : PySem.W.Frag} {H : Hp} {a : Addr} {ns : List Int} {sp : DSp} (hl : ns.length ≤ 63) (hb : ∀ z ∈ ns, Builtin.Int.intBits z ≤ 1048576) (hO : Only H) (hS : SqL K H a (ns.map V.int))
    (h : sp [.rl (ns.map D.int)] (fun _ => none) (fun d _ => d = .bl true) X0) : lSp K sp [.ref a] H (fun v _ => v = .bl true) fun _ _ _ => False := by
  refine ⟨_, _, _, _, Reps.one ?_, fun a o e => (by cases e), h, fun d m' v H' e _ _ r => ?_, fun _ _ _ _ _ e => e.elim⟩
  · show Rep K H (.rl (ns.map D.int)) (.ref a)
    unfold Rep
    exact ⟨a, _, rfl, RoL.of_only hO hS, Reps.of_ints ns⟩
  · rw [e] at r
    exact Rep.bl_.mp r
/-! ### seeds: a list of four ints; a draw gives an int below its bound -/
def isSeed : Option O → Prop
  | some (.lst [.int _, .int _, .int _, .int _]) => True
  | _ => False
def seedO (n f k c : Int) : O := .lst [.int n, .int f, .int k, .int c]
theorem isSeed_of {o : Option O} (h : isSeed o) : ∃ n f k c, o = some (seedO n f k c) := by
  unfold isSeed at h
  split at h
  · exact ⟨_, _, _, _, rfl⟩
  · exact h.elim
theorem isSeed_mk (n f k c : Int) : isSeed (some (seedO n f k c)) := trivial
/-- a draw: some int below most; the seed turns -/
def spDraw : DSp := fun ds m R _ => match ds with
  | [.ref a, .int most] => isSeed (m a) ∧ 0 < most ∧ most < 2 ^ 64 ∧ ∀ (v : Int) (o : O), isSeed (some o) → 0 ≤ v → v < most → R (.int v) (mput m a o)
  | _ => False
theorem spDraw_len : ∀ ds m R E, spDraw ds m R E → ds.length = 2 := by
  intro ds m R E h
  unfold spDraw at h
  split at h
  · rfl
  · exact h.elim
theorem small_div {i j : Int} (h0 : 0 < j) (h1 : j < 2 ^ 64) : CDivW i j := wide_div (b := 64) h0 (by omega) (by decide) (by decide)
theorem mul_l {i j : Int} (h0 : -(2 ^ 64) < i) (h1 : i < 2 ^ 64) : CMulA i j := .inl (.inl ⟨h0, h1⟩)
theorem mul_r {i j : Int} (h0 : -(2 ^ 64) < j) (h1 : j < 2 ^ 64) : CMulA i j := .inl (.inr ⟨h0, h1⟩)
theorem cutD_take {α : Type} {f : α → D} {xs : List α} {k : Int} (h : 0 ≤ k) : cutD (xs.map f) none (some k) = (xs.take k.toNat).map f := by
  unfold cutD
  have e : HT.sIx (xs.map f).length (xs.map f).length (some k) = min k.toNat xs.length := by
    have := HT.sIx_nat (xs.map f).length (xs.map f).length k.toNat
    rw [Int.toNat_of_nonneg h] at this
    rw [this, List.length_map]
  rw [e, HT.sIx_none]
  simp only [List.drop_zero, Nat.sub_zero]
  rw [← List.map_take]
  congr 1
  rw [List.take_eq_take_iff]
  omega
/-! ### loops over lists that are given by a map -/
theorem lcL_nil {G : Mu → Prop} {g : DTG} {tt : DTT} {te : DTE} {r0 : DSt} {acc : List D} {m : Mu} {R : List D → Mu → Prop} : lcL G g tt te r0 [] acc m R = (G m ∧ R acc m) := propext Iff.rfl
theorem lcL_cons {G : Mu → Prop} {g : DTG} {tt : DTT} {te : DTE} {r0 : DSt} {d : D} {ds acc : List D} {m : Mu} {R : List D → Mu → Prop} : lcL G g tt te r0 (d :: ds) acc m R =
    (G m ∧ g d r0 m fun r2 m2 => tt r2 m2 fun b m3 => if b = true then te r2 m3 fun y m4 => acc.length < sizeLine ∧ lcL G g tt te r0 ds (acc ++ [y]) m4 R else lcL G g tt te r0 ds acc m3 R) := propext Iff.rfl
theorem forL_nil {G : Mu → Prop} {g : DTG} {tb : DTS} {E : DEnds} {r : DSt} {m : Mu} : forL G g tb [] E r m = (G m ∧ E.nx r m) := propext Iff.rfl
theorem forL_cons {G : Mu → Prop} {g : DTG} {tb : DTS} {d : D} {ds : List D} {E : DEnds} {r : DSt} {m : Mu} : forL G g tb (d :: ds) E r m =
    (G m ∧ g d r m fun r' m' => tb { E with nx := forL G g tb ds E, ct := forL G g tb ds E, bk := E.nx } r' m') := propext Iff.rfl
/-- a comprehension that changes nothing -/
theorem lc_map {α : Type} {G : Mu → Prop} {g : DTG} {tt : DTT} {te : DTE} {r0 : DSt} {m : Mu} {R : List D → Mu → Prop} (e : α → D) (p : α → Bool) (f : α → D) (hG : G m) :
    ∀ (xs : List α) (acc : List D), acc.length + xs.length ≤ sizeLine →
      (∀ x ∈ xs, ∀ (acc : List D) (W : List D → Mu → Prop), acc.length < sizeLine → (if p x = true then W (acc ++ [f x]) m else W acc m) → g (e x) r0 m fun r2 m2 => tt r2 m2 fun b m3 => if b = true then te r2 m3 fun y m4 => acc.length < sizeLine ∧ W (acc ++ [y]) m4 else W acc m3) →
      R (acc ++ (xs.filter p).map f) m → lcL G g tt te r0 (xs.map e) acc m R
  | [], acc, _, _, h => by
    rw [List.map_nil, lcL_nil]
    exact ⟨hG, by simpa using h⟩
  | x :: xs, acc, hl, ht, h => by
    rw [List.map_cons, lcL_cons]
    simp only [List.length_cons] at hl
    refine ⟨hG, ht x List.mem_cons_self acc (fun acc m => lcL G g tt te r0 (xs.map e) acc m R) (by omega) ?_⟩
    by_cases hp : p x = true
    · rw [if_pos hp]
      refine lc_map e p f hG xs _ (by simp only [List.length_append, List.length_cons, List.length_nil]; omega) (fun y hy => ht y (List.mem_cons_of_mem _ hy)) ?_
      rw [List.filter_cons_of_pos hp] at h
      simpa using h
    · rw [if_neg hp]
      refine lc_map e p f hG xs _ (by omega) (fun y hy => ht y (List.mem_cons_of_mem _ hy)) ?_
      rw [List.filter_cons_of_neg hp] at h
      exact h
/-- a loop by what holds ahead of the items that are left -/
theorem for_ind {α : Type} {G : Mu → Prop} {g : DTG} {tb : DTS} {E : DEnds} (e : α → D) (I : List α → DSt → Mu → Prop) (h0 : ∀ r m, I [] r m → G m ∧ E.nx r m)
    (h1 : ∀ x xs (nx : DSt → Mu → Prop), (∀ r m, I xs r m → nx r m) → ∀ r m, I (x :: xs) r m → G m ∧ g (e x) r m fun r' m' => tb { E with nx := nx, ct := nx, bk := E.nx } r' m') :
    ∀ xs r m, I xs r m → forL G g tb (xs.map e) E r m
  | [], r, m, h => by rw [List.map_nil, forL_nil]; exact h0 r m h
  | x :: xs, r, m, h => by
    rw [List.map_cons, forL_cons]
    exact h1 x xs _ (fun r m h => for_ind e I h0 h1 xs r m h) r m h
theorem rng_map (n : Nat) : rngItems 0 n = (List.range n).map fun (i : Nat) => D.int (i : Int) := by
  unfold rngItems
  congr 1
  funext i
  rw [Int.zero_add]
theorem pyAll_ints {m : Mu} {n : Nat} : ∀ (ns : List Int), pyAll (py m (n + 1)) (ns.map D.int) = some (ns.map PyData.int)
  | [] => rfl
  | x :: xs => by
    show pyAll (py m (n + 1)) (.int x :: xs.map D.int) = _
    unfold pyAll
    rw [pyAll_ints xs]
    rfl
theorem filter_yes {α : Type} : ∀ l : List α, l.filter (fun _ => true) = l
  | [] => rfl
  | x :: l => by rw [List.filter_cons_of_pos rfl, filter_yes l]
theorem ne_of {m : Mu} {a b : Addr} {o : O} (ha : m a = some o) (hb : m b = none) : a ≠ b := by
  intro e
  rw [e, hb] at ha
  cases ha
/-- a loop over a range, by how many turns are done -/
theorem for_rng {G : Mu → Prop} {g : DTG} {tb : DTS} {E : DEnds} (i : Int) (n : Nat) (I : Nat → DSt → Mu → Prop) (h0 : ∀ r m, I n r m → G m ∧ E.nx r m)
    (h1 : ∀ j, j < n → ∀ (nx : DSt → Mu → Prop), (∀ r m, I (j + 1) r m → nx r m) → ∀ r m, I j r m → G m ∧ g (.int (i + j)) r m fun r' m' => tb { E with nx := nx, ct := nx, bk := E.nx } r' m')
    (r : DSt) (m : Mu) (h : I 0 r m) : forL G g tb (rngItems i n) E r m := by
  have e : rngItems i n = (List.range n).map fun (j : Nat) => D.int (i + j) := by
    unfold rngItems
    rfl
  rw [e]
  refine for_ind (fun (j : Nat) => D.int (i + j)) (fun xs r m => ∃ j, j ≤ n ∧ xs = (List.range n).drop j ∧ I j r m) ?_ ?_ _ r m ⟨0, by omega, rfl, h⟩
  · rintro r m ⟨j, hj, e, hI⟩
    have : j = n := by
      have := congrArg List.length e
      simp at this
      omega
    subst this
    exact h0 r m hI
  · rintro x xs nx hnx r m ⟨j, hj, e, hI⟩
    have hl := congrArg List.length e
    simp at hl
    have hlt : j < n := by omega
    rw [List.drop_eq_getElem_cons (by simpa using hlt)] at e
    injection e with e1 e2
    simp at e1
    subst e1
    exact h1 x hlt nx (fun r m hI => hnx r m ⟨x + 1, by omega, e2, hI⟩) r m hI

/-! ### fractions: rational numbers -/
def fr (q : Rat) : D := .tup [.int q.num, .int (q.den : Int)]
/-- few enough bits -/
def Bd (n : Nat) (q : Rat) : Prop := q.num.natAbs < 2 ^ n ∧ q.den < 2 ^ n
theorem mulW {a b : Nat} {i j : Int} (hi : i.natAbs < 2 ^ a) (hj : j.natAbs < 2 ^ b) (h : a + b < 1000000) : CMulA i j := by
  refine .inr ?_
  show i.natAbs.log2 + j.natAbs.log2 < 1000000
  have k : ∀ (n c : Nat), n < 2 ^ c → n.log2 ≤ c := by
    intro n c h
    rcases Nat.eq_zero_or_pos n with e | e
    · subst e; simp
    · exact Nat.le_of_lt ((Nat.log2_lt (by omega)).mpr h)
  have := k _ _ hi
  have := k _ _ hj
  omega
theorem divW {a : Nat} {i j : Int} (h0 : 0 < j) (hj : j.natAbs < 2 ^ a) (h : a ≤ 8999) : CDivW i j := by
  refine ⟨h0, ?_⟩
  have := (Nat.log2_lt (n := j.natAbs) (k := a) (by omega)).mpr hj
  omega
theorem nn_lt {a b c : Nat} {i j : Int} (hi : i.natAbs < 2 ^ a) (hj : j.natAbs < 2 ^ b) (h : a + b ≤ c) : (i * j).natAbs < 2 ^ c := by
  rw [Int.natAbs_mul]
  refine Nat.lt_of_lt_of_le (Nat.mul_lt_mul'' hi hj) ?_
  rw [← Nat.pow_add]
  exact Nat.pow_le_pow_right (by decide) h
theorem na_lt {a b c : Nat} {i j : Int} (hi : i.natAbs < 2 ^ a) (hj : j.natAbs < 2 ^ b) (h : a < c) (h' : b < c) : (i + j).natAbs < 2 ^ c := by
  have h1 : 2 ^ a ≤ 2 ^ (c - 1) := Nat.pow_le_pow_right (by decide) (by omega)
  have h2 : 2 ^ b ≤ 2 ^ (c - 1) := Nat.pow_le_pow_right (by decide) (by omega)
  have h3 : 2 ^ c = 2 ^ (c - 1) * 2 := by rw [← Nat.pow_succ]; congr 1; omega
  omega
theorem div_fr (a b : Int) (hb : 0 < b) : ((a : Rat) / (b : Rat)).num = a / (Int.gcd a b : Int) ∧ ((((a : Rat) / (b : Rat)).den : Nat) : Int) = b / (Int.gcd a b : Int) := by
  obtain ⟨n, rfl⟩ := Int.eq_ofNat_of_zero_le (Int.le_of_lt hb)
  have h0 : n ≠ 0 := by omega
  have e : (a : Rat) / ((n : Int) : Rat) = mkRat a n := (Rat.mkRat_eq_div a n).symm
  rw [e, Rat.mkRat_def, dif_neg h0, Rat.normalize_eq]
  refine ⟨rfl, ?_⟩
  show ((n / a.natAbs.gcd n : Nat) : Int) = _
  rw [Int.natCast_ediv]
  rfl
theorem fr_div {a b : Int} (hb : 0 < b) : fr ((a : Rat) / (b : Rat)) = .tup [.int (a / (Int.gcd a b : Int)), .int (b / (Int.gcd a b : Int))] := by
  unfold fr
  rw [(div_fr a b hb).1, (div_fr a b hb).2]
theorem rat_eq (q : Rat) : q = (q.num : Rat) / ((q.den : Int) : Rat) := by
  have := Rat.mkRat_eq_div q.num q.den
  rw [Rat.mkRat_self] at this
  exact this
theorem den_pos (q : Rat) : 0 < (q.den : Int) := by
  have := q.den_pos
  omega
theorem den_ne (q : Rat) : ((q.den : Int) : Rat) ≠ 0 := by
  have := q.den_pos
  intro h
  have : (q.den : Int) = 0 := by exact_mod_cast h
  omega
theorem Bd.mono {n k : Nat} {q : Rat} (h : Bd n q) (hk : n ≤ k) : Bd k q :=
  ⟨Nat.lt_of_lt_of_le h.1 (Nat.pow_le_pow_right (by decide) hk), Nat.lt_of_lt_of_le h.2 (Nat.pow_le_pow_right (by decide) hk)⟩
theorem Bd.d {n : Nat} {q : Rat} (h : Bd n q) : (q.den : Int).natAbs < 2 ^ n := by
  have := h.2
  simpa using this
theorem Bd.of_div {a b : Int} {n : Nat} (hb : b ≠ 0) (ha : a.natAbs < 2 ^ n) (hb' : b.natAbs < 2 ^ n) : Bd n ((a : Rat) / (b : Rat)) := by
  have key : ∀ (a b : Int), 0 < b → a.natAbs < 2 ^ n → b.natAbs < 2 ^ n → Bd n ((a : Rat) / (b : Rat)) := by
    intro a b hb ha hb'
    obtain ⟨e1, e2⟩ := div_fr a b hb
    refine ⟨?_, ?_⟩
    · rw [e1]
      refine Nat.lt_of_le_of_lt ?_ ha
      exact Int.natAbs_ediv_le_natAbs _ _
    · have : (((a : Rat) / (b : Rat)).den : Int).natAbs ≤ b.natAbs := by
        rw [e2]
        exact Int.natAbs_ediv_le_natAbs _ _
      have : ((a : Rat) / (b : Rat)).den ≤ b.natAbs := by simpa using this
      omega
  rcases Int.lt_or_gt_of_ne hb with h | h
  · have := key (-a) (-b) (by omega) (by rw [Int.natAbs_neg]; exact ha) (by rw [Int.natAbs_neg]; exact hb')
    have e : ((-a : Int) : Rat) / ((-b : Int) : Rat) = (a : Rat) / (b : Rat) := by
      have hb0 : (b : Rat) ≠ 0 := by exact_mod_cast hb
      rw [Rat.intCast_neg, Rat.intCast_neg]
      grind
    rw [e] at this
    exact this
  · exact key a b h ha hb'
theorem add_eq (p q : Rat) : p + q = ((p.num * q.den + q.num * p.den : Int) : Rat) / ((p.den * q.den : Int) : Rat) := by
  have hp := rat_eq p
  have hq := rat_eq q
  have dp := den_ne p
  have dq := den_ne q
  rw [Rat.intCast_add, Rat.intCast_mul, Rat.intCast_mul, Rat.intCast_mul]
  grind
theorem sub_eq (p q : Rat) : p - q = ((p.num * q.den - q.num * p.den : Int) : Rat) / ((p.den * q.den : Int) : Rat) := by
  have hp := rat_eq p
  have hq := rat_eq q
  have dp := den_ne p
  have dq := den_ne q
  rw [Rat.intCast_sub, Rat.intCast_mul, Rat.intCast_mul, Rat.intCast_mul]
  grind
theorem mul_eq (p q : Rat) : p * q = ((p.num * q.num : Int) : Rat) / ((p.den * q.den : Int) : Rat) := by
  have hp := rat_eq p
  have hq := rat_eq q
  have dp := den_ne p
  have dq := den_ne q
  rw [Rat.intCast_mul, Rat.intCast_mul]
  grind
theorem num_ne {q : Rat} (h : q ≠ 0) : q.num ≠ 0 := by
  intro e
  exact h (by rw [rat_eq q, e]; simp [Rat.div_def])
theorem num_ne' {q : Rat} (h : q ≠ 0) : (q.num : Rat) ≠ 0 := by
  have := num_ne h
  exact_mod_cast this
theorem div_eq (p q : Rat) (h : q ≠ 0) : p / q = ((p.num * q.den : Int) : Rat) / ((p.den * q.num : Int) : Rat) := by
  have hp := rat_eq p
  have hq := rat_eq q
  have dp := den_ne p
  have dq := den_ne q
  have nq := num_ne' h
  rw [Rat.intCast_mul, Rat.intCast_mul]
  grind
theorem den_mul_pos (p q : Rat) : 0 < (p.den * q.den : Int) := Int.mul_pos (den_pos p) (den_pos q)
theorem Bd.add {n k c : Nat} {p q : Rat} (hp : Bd n p) (hq : Bd k q) (h : n + k < c := by omega) : Bd c (p + q) := by
  rw [add_eq]
  have := den_mul_pos p q
  exact Bd.of_div (by omega) (na_lt (nn_lt hp.1 hq.d (Nat.le_refl _)) (nn_lt hq.1 hp.d (Nat.le_refl _)) h (by omega)) (nn_lt hp.d hq.d (by omega))
theorem Bd.neg {n : Nat} {p : Rat} (hp : Bd n p) : Bd n (-p) := by
  unfold Bd
  rw [Rat.neg_num, Rat.neg_den, Int.natAbs_neg]
  exact hp
theorem Bd.sub {n k c : Nat} {p q : Rat} (hp : Bd n p) (hq : Bd k q) (h : n + k < c := by omega) : Bd c (p - q) := by
  rw [Rat.sub_eq_add_neg]
  exact hp.add hq.neg h
theorem Bd.mul {n k c : Nat} {p q : Rat} (hp : Bd n p) (hq : Bd k q) (h : n + k ≤ c := by omega) : Bd c (p * q) := by
  rw [mul_eq]
  have := den_mul_pos p q
  exact Bd.of_div (by omega) (nn_lt hp.1 hq.1 h) (nn_lt hp.d hq.d h)
theorem Bd.div {n k c : Nat} {p q : Rat} (hp : Bd n p) (hq : Bd k q) (h0 : q ≠ 0) (h : n + k ≤ c := by omega) : Bd c (p / q) := by
  rw [div_eq p q h0]
  refine Bd.of_div ?_ (nn_lt hp.1 hq.d h) (nn_lt hp.d hq.1 h)
  intro e
  rcases Int.mul_eq_zero.mp e with e | e
  · have := den_pos p
    omega
  · exact num_ne h0 e
theorem fr_inj {p q : Rat} (h : fr p = fr q) : p = q := by
  unfold fr at h
  injection h with h
  injection h with h1 h2
  injection h1 with h1
  injection h2 with h2 _
  injection h2 with h2
  exact Rat.ext h1 (by omega)
/-! ### the greatest common divisor by the loop -/
theorem gcd_while {tt : DTT} {tb : DTS} (st : Int → Int → DSt) (m : Mu) (E : DEnds) (ht : ∀ x y R, R (decide (0 < y)) m → tt (st x y) m R) (hb : ∀ x y (F : DEnds), 0 < y → F.nx (st y (x % y)) m → tb F (st x y) m) :
    ∀ (n : Nat) (x y : Int), 0 ≤ x → 0 ≤ y → y.toNat ≤ n → E.nx (st (Int.gcd x y) 0) m → whileN tt tb (n + 1) E (st x y) m
  | n, x, y, hx, hy, hn, hE => by
    unfold whileN
    refine ht _ _ _ ?_
    by_cases h : 0 < y
    · rw [if_pos (by simpa using h)]
      cases n with
      | zero => omega
      | succ n =>
        refine hb x y _ h (gcd_while st m E ht hb n y (x % y) hy (Int.emod_nonneg _ (by omega)) ?_ ?_)
        · have := Int.emod_lt_of_pos x h
          omega
        · have e : Int.gcd y (x % y) = Int.gcd x y := by
            rw [Int.emod_def, Int.gcd_sub_mul_left_right, Int.gcd_comm]
          rw [e]
          exact hE
    · rw [if_neg (by simpa using h)]
      have e : y = 0 := by omega
      subst e
      have e2 : ((Int.gcd x 0 : Nat) : Int) = x := by
        rw [Int.gcd_zero]
        omega
      rw [e2] at hE
      exact hE
/-! ### promises of fraction defs -/
def spQuotP : DSp := fun ds m R _ => ∃ a b : Int, ds = [.int a, .int b] ∧ 0 < b ∧ b.natAbs < 2 ^ 8999 ∧ R (fr ((a : Rat) / (b : Rat))) m
def spQuot : DSp := fun ds m R _ => ∃ a b : Int, ds = [.int a, .int b] ∧ b ≠ 0 ∧ b.natAbs < 2 ^ 8999 ∧ R (fr ((a : Rat) / (b : Rat))) m
def spR2 (f : Rat → Rat → Rat) : DSp := fun ds m R _ => ∃ p q : Rat, ds = [fr p, fr q] ∧ Bd 4000 p ∧ Bd 4000 q ∧ R (fr (f p q)) m
def spRD : DSp := fun ds m R _ => ∃ p q : Rat, ds = [fr p, fr q] ∧ Bd 4000 p ∧ Bd 4000 q ∧ q ≠ 0 ∧ R (fr (p / q)) m
def spRB (f : Rat → Rat → Bool) : DSp := fun ds m R _ => ∃ p q : Rat, ds = [fr p, fr q] ∧ Bd 4000 p ∧ Bd 4000 q ∧ R (.bl (f p q)) m
theorem len_spQuotP : ∀ ds m R E, spQuotP ds m R E → ds.length = 2 := by
  rintro ds m R E ⟨a, b, rfl, _⟩; rfl
theorem len_spQuot : ∀ ds m R E, spQuot ds m R E → ds.length = 2 := by
  rintro ds m R E ⟨a, b, rfl, _⟩; rfl
theorem len_spR2 {f : Rat → Rat → Rat} : ∀ ds m R E, spR2 f ds m R E → ds.length = 2 := by
  rintro ds m R E ⟨a, b, rfl, _⟩; rfl
theorem len_spRD : ∀ ds m R E, spRD ds m R E → ds.length = 2 := by
  rintro ds m R E ⟨a, b, rfl, _⟩; rfl
theorem len_spRB {f : Rat → Rat → Bool} : ∀ ds m R E, spRB f ds m R E → ds.length = 2 := by
  rintro ds m R E ⟨a, b, rfl, _⟩; rfl
theorem abs_eq (a : Int) : (if a < 0 then -a else a) = (a.natAbs : Int) := by
  split <;> omega
theorem gcd_abs (a b : Int) : Int.gcd (a.natAbs : Int) b = Int.gcd a b := by
  unfold Int.gcd
  rw [Int.natAbs_natCast]
theorem gcd_pos {a b : Int} (hb : 0 < b) : 0 < (Int.gcd a b : Int) := by
  have := Int.gcd_pos_of_ne_zero_right a (b := b) (by omega)
  omega
theorem gcd_lt {a b : Int} {n : Nat} (hb : 0 < b) (h : b.natAbs < 2 ^ n) : (Int.gcd a b : Int).natAbs < 2 ^ n := by
  have h1 : Int.gcd a b ≤ b.natAbs := Nat.le_of_dvd (by omega) (Nat.gcd_dvd_right _ _)
  have h2 : (Int.gcd a b : Int).natAbs = Int.gcd a b := Int.natAbs_natCast _
  omega

/-! ### data of a native type: == tells whether they are the same -/
structure Enc {α : Type} [DecidableEq α] (n : Nat) (f : α → D) (g : α → PyData) : Prop where
  py : ∀ (m : Mu) (k : Nat) (x : α), n ≤ k → DL.py m k (f x) = some (g x)
  eqv : ∀ x y : α, PyData.eqv (g x) (g y) = decide (x = y)
theorem Enc.mono {α : Type} [DecidableEq α] {n k : Nat} {f : α → D} {g : α → PyData} (h : Enc n f g) (hk : n ≤ k) : Enc k f g := ⟨fun m j x hj => h.py m j x (by omega), h.eqv⟩
theorem enc_int : Enc 1 D.int PyData.int := ⟨fun m k x hk => by
    cases k with
    | zero => omega
    | succ k => rfl, fun x y => by
    unfold PyData.eqv
    rfl⟩
theorem pyAll_map {α : Type} {p : D → Option PyData} {f : α → D} {g : α → PyData} (h : ∀ x, p (f x) = some (g x)) : ∀ xs : List α, pyAll p (xs.map f) = some (xs.map g)
  | [] => rfl
  | x :: xs => by
    rw [List.map_cons]
    unfold pyAll
    rw [pyAll_map h xs, h x]
    rfl
theorem eqvAll_map {α : Type} [DecidableEq α] {g : α → PyData} (h : ∀ x y : α, PyData.eqv (g x) (g y) = decide (x = y)) : ∀ xs ys : List α, PyData.eqvAll (xs.map g) (ys.map g) = decide (xs = ys)
  | [], [] => by simp [PyData.eqvAll]
  | [], y :: ys => by simp [PyData.eqvAll]
  | x :: xs, [] => by simp [PyData.eqvAll]
  | x :: xs, y :: ys => by
    rw [List.map_cons, List.map_cons, PyData.eqvAll, h, eqvAll_map h xs ys]
    simp
theorem py_tup {m : Mu} {k : Nat} {ds : List D} {ps : List PyData} (h : pyAll (py m k) ds = some ps) : py m (k + 1) (.tup ds) = some (.tuple ps) := by
  unfold py
  simp only [h]
theorem enc_list {α : Type} [DecidableEq α] {n : Nat} {f : α → D} {g : α → PyData} (h : Enc n f g) : Enc (n + 1) (fun xs : List α => D.tup (xs.map f)) (fun xs => PyData.tuple (xs.map g)) :=
  ⟨fun m k xs hk => by
    cases k with
    | zero => omega
    | succ k => exact py_tup (pyAll_map (fun x => h.py m k x (by omega)) xs), fun xs ys => by
    rw [PyData.eqv]
    exact eqvAll_map h.eqv xs ys⟩
theorem enc_pair {α β : Type} [DecidableEq α] [DecidableEq β] {n : Nat} {f : α → D} {g : α → PyData} {f' : β → D} {g' : β → PyData} (h : Enc n f g) (h' : Enc n f' g') :
    Enc (n + 1) (fun x : α × β => D.tup [f x.1, f' x.2]) (fun x => PyData.tuple [g x.1, g' x.2]) :=
  ⟨fun m k x hk => by
    cases k with
    | zero => omega
    | succ k =>
      refine py_tup ?_
      have e1 := h.py m k x.1 (by omega)
      have e2 := h'.py m k x.2 (by omega)
      simp only [pyAll, e1, e2], fun x y => by
    rw [PyData.eqv, PyData.eqvAll, PyData.eqvAll, PyData.eqvAll, h.eqv, h'.eqv]
    rcases x with ⟨a, b⟩
    rcases y with ⟨c, d⟩
    simp⟩
theorem enc_triple {α β γ : Type} [DecidableEq α] [DecidableEq β] [DecidableEq γ] {n : Nat} {f : α → D} {g : α → PyData} {f' : β → D} {g' : β → PyData} {f'' : γ → D} {g'' : γ → PyData} (h : Enc n f g) (h' : Enc n f' g') (h'' : Enc n f'' g'') :
    Enc (n + 1) (fun x : α × β × γ => D.tup [f x.1, f' x.2.1, f'' x.2.2]) (fun x => PyData.tuple [g x.1, g' x.2.1, g'' x.2.2]) :=
  ⟨fun m k x hk => by
    cases k with
    | zero => omega
    | succ k =>
      refine py_tup ?_
      have e1 := h.py m k x.1 (by omega)
      have e2 := h'.py m k x.2.1 (by omega)
      have e3 := h''.py m k x.2.2 (by omega)
      simp only [pyAll, e1, e2, e3], fun x y => by
    rw [PyData.eqv, PyData.eqvAll, PyData.eqvAll, PyData.eqvAll, PyData.eqvAll, h.eqv, h'.eqv, h''.eqv]
    rcases x with ⟨a, b, e⟩
    rcases y with ⟨c, d, e'⟩
    simp⟩
theorem Enc.gEq {α : Type} [DecidableEq α] {n : Nat} {f : α → D} {g : α → PyData} (h : Enc n f g) {x y : α} {m : Mu} {R : DK} (hR : R (.bl (decide (x = y))) m) (hn : n ≤ deep := by decide) : DL.gEq (f x) (f y) m R :=
  gEq_of (h.py m deep x hn) (h.py m deep y hn) (by rw [h.eqv]; exact hR)
theorem Enc.gNe {α : Type} [DecidableEq α] {n : Nat} {f : α → D} {g : α → PyData} (h : Enc n f g) {x y : α} {m : Mu} {R : DK} (hR : R (.bl (!decide (x = y))) m) (hn : n ≤ deep := by decide) : DL.gNe (f x) (f y) m R :=
  gNe_of (h.py m deep x hn) (h.py m deep y hn) (by rw [h.eqv]; exact hR)

/-! ### maps: knots of fractions -/
def frP (q : Rat) : PyData := .tuple [.int q.num, .int (q.den : Int)]
theorem enc_fr : Enc 2 fr frP :=
  ⟨fun m k x hk => by
    match k, hk with
    | k + 2, _ => rfl, fun x y => by
    simp only [frP, PyData.eqv, PyData.eqvAll, Bool.and_true]
    rw [Bool.eq_iff_iff, Bool.and_eq_true, beq_iff_eq, beq_iff_eq, decide_eq_true_eq]
    constructor
    · rintro ⟨h1, h2⟩
      exact Rat.ext h1 (by omega)
    · rintro rfl
      exact ⟨rfl, rfl⟩⟩
abbrev Kn := Rat × Rat
def knD (k : Kn) : D := .tup [fr k.1, fr k.2]
def mapD (ks : List Kn) : D := .tup (ks.map knD)
def knP (k : Kn) : PyData := .tuple [frP k.1, frP k.2]
theorem enc_kn : Enc 3 knD knP := enc_pair enc_fr enc_fr
theorem enc_map : Enc 4 mapD (fun ks => PyData.tuple (ks.map knP)) := enc_list enc_kn
def Inc (ks : List Kn) : Prop := ks.Pairwise fun a b => a.1 < b.1
def BdK (n : Nat) (ks : List Kn) : Prop := ∀ k ∈ ks, Bd n k.1 ∧ Bd n k.2
def slp (a b : Kn) : Rat := (b.2 - a.2) / (b.1 - a.1)
/-- knots at which it bends, behind one that was kept -/
def lk : Kn → List Kn → List Kn
  | _, [] => []
  | _, [z] => [z]
  | a, k :: n :: l => if slp a k = slp k n then lk a (n :: l) else k :: lk k (n :: l)
def leastK : List Kn → List Kn
  | [] => []
  | a :: l => a :: lk a l
def pairs {α : Type} : List α → List (α × α)
  | a :: b :: l => (a, b) :: pairs (b :: l)
  | _ => []
/-- the value at a point -/
def valK : List Kn → Rat → Rat
  | [], _ => 0
  | [k], _ => k.2
  | a :: b :: l, p => if b.1 < p then valK (b :: l) p else (a.2 * (b.1 - p) + b.2 * (p - a.1)) / (b.1 - a.1)
theorem Inc.tail {a : Kn} {l : List Kn} (h : Inc (a :: l)) : Inc l := (List.pairwise_cons.mp h).2
theorem Inc.lt {a b : Kn} {l : List Kn} (h : Inc (a :: b :: l)) : a.1 < b.1 := (List.pairwise_cons.mp h).1 b List.mem_cons_self
theorem Inc.skip {a b : Kn} {l : List Kn} (h : Inc (a :: b :: l)) : Inc (a :: l) :=
  List.pairwise_cons.mpr ⟨fun x hx => (List.pairwise_cons.mp h).1 x (List.mem_cons_of_mem _ hx), h.tail.tail⟩
theorem BdK.tail {n : Nat} {a : Kn} {l : List Kn} (h : BdK n (a :: l)) : BdK n l := fun k hk => h k (List.mem_cons_of_mem _ hk)
theorem BdK.head {n : Nat} {a : Kn} {l : List Kn} (h : BdK n (a :: l)) : Bd n a.1 ∧ Bd n a.2 := h a List.mem_cons_self
theorem BdK.mono {n k : Nat} {l : List Kn} (h : BdK n l) (hk : n ≤ k) : BdK k l := fun x hx => ⟨(h x hx).1.mono hk, (h x hx).2.mono hk⟩
theorem lk_sub : ∀ (l : List Kn) (a : Kn), (lk a l).Sublist l
  | [], a => by unfold lk; exact .slnil
  | [z], a => by unfold lk; exact List.Sublist.refl _
  | k :: n :: l, a => by
    unfold lk
    split
    · exact .cons _ (lk_sub (n :: l) a)
    · exact .cons_cons _ (lk_sub (n :: l) k)
theorem leastK_sub (ks : List Kn) : (leastK ks).Sublist ks := by
  cases ks with
  | nil => exact .slnil
  | cons a l => exact .cons_cons _ (lk_sub l a)
theorem Inc.least {ks : List Kn} (h : Inc ks) : Inc (leastK ks) := List.Pairwise.sublist (leastK_sub ks) h
theorem BdK.least {n : Nat} {ks : List Kn} (h : BdK n ks) : BdK n (leastK ks) := fun k hk => h k ((leastK_sub ks).subset hk)
theorem lk_ne {a : Kn} : ∀ {l : List Kn}, l ≠ [] → lk a l ≠ []
  | [], h => absurd rfl h
  | [z], _ => by unfold lk; simp
  | k :: n :: l, _ => by
    unfold lk
    split
    · exact lk_ne (by simp)
    · simp
theorem leastK_len {ks : List Kn} (h : 2 ≤ ks.length) : 2 ≤ (leastK ks).length := by
  match ks, h with
  | a :: b :: l, _ =>
    have := lk_ne (a := a) (l := b :: l) (by simp)
    unfold leastK
    have := List.length_pos_iff.mpr this
    simp only [List.length_cons]
    omega
theorem leastK_le (ks : List Kn) : (leastK ks).length ≤ ks.length := (leastK_sub ks).length_le
/-- bends or lies straight: by slopes or by the value amid -/
theorem straight {a k n : Kn} (h1 : a.1 < k.1) (h2 : k.1 < n.1) : slp a k = slp k n ↔ (a.2 * (n.1 - k.1) + n.2 * (k.1 - a.1)) / (n.1 - a.1) = k.2 := by
  unfold slp
  have e1 : k.1 - a.1 ≠ 0 := by grind
  have e2 : n.1 - k.1 ≠ 0 := by grind
  have e3 : n.1 - a.1 ≠ 0 := by grind
  grind
theorem zip_pairs {α : Type} (f : α → D) : ∀ l : List α, zipItems (l.map f) ((l.drop 1).map f) = (pairs l).map fun p => .tup [f p.1, f p.2]
  | [] => rfl
  | [a] => rfl
  | a :: b :: l => by
    have := zip_pairs f (b :: l)
    simp only [pairs, List.map_cons, List.drop_succ_cons, List.drop_zero, zipItems] at this ⊢
    rw [← this]
theorem cutD_drop {α : Type} {f : α → D} {xs : List α} {k : Int} (h : 0 ≤ k) (hk : k.toNat ≤ xs.length) : cutD (xs.map f) (some k) none = (xs.drop k.toNat).map f := by
  unfold cutD
  have e : HT.sIx (xs.map f).length 0 (some k) = min k.toNat xs.length := by
    have := HT.sIx_nat (xs.map f).length 0 k.toNat
    rw [Int.toNat_of_nonneg h] at this
    rw [this, List.length_map]
  rw [e, HT.sIx_none]
  have e2 : min k.toNat xs.length = k.toNat := by omega
  rw [e2, ← List.map_drop]
  rw [List.take_of_length_le (by simp)]
def piD (p : Kn × Kn) : D := .tup [fr p.1.1, fr p.2.1, fr (slp p.1 p.2)]
theorem Sub.new {m : Mu} {a : Addr} {o : O} (h : m a = none) : Sub m (mput m a o) := fun b u hb => by
  rw [mput_ne (ne_of hb h)]
  exact hb
theorem fin_new {R : DK} {d : D} {m : Mu} {a : Addr} {o : O} (h : m a = none) (hR : R d m) : fin R d (mput m a o) := ⟨m, Sub.new h, hR⟩
theorem at_last {l : List D} {x : D} {k : D → Prop} (h : l.getLast? = some x) (q : k x) : atK l (-1) k := by
  obtain ⟨ys, rfl⟩ := List.getLast?_eq_some_iff.mp h
  rw [atK_last]
  exact q
theorem drop_two_cons {α : Type} {l : List α} {j : Nat} (h : j + 1 < l.length) : ∃ k n r, l.drop j = k :: n :: r ∧ l[j]? = some k ∧ l[j + 1]? = some n ∧ l.drop (j + 1) = n :: r := by
  have h1 : j < l.length := by omega
  refine ⟨l[j], l[j + 1], l.drop (j + 2), ?_, by simp, by simp, ?_⟩
  · rw [List.drop_eq_getElem_cons h1, List.drop_eq_getElem_cons h]
  · rw [List.drop_eq_getElem_cons h]
theorem drop_one_cons {α : Type} {l : List α} (h : l ≠ []) : ∃ z, l.drop (l.length - 1) = [z] ∧ l.getLast? = some z := by
  refine ⟨l.getLast h, ?_, List.getLast?_eq_some_getLast h⟩
  have hp := List.length_pos_iff.mpr h
  rw [List.drop_eq_getElem_cons (by omega), List.getLast_eq_getElem]
  congr 1
  exact List.drop_eq_nil_of_le (by omega)
theorem lk_cons (a k n : Kn) (l : List Kn) : lk a (k :: n :: l) = if slp a k = slp k n then lk a (n :: l) else k :: lk k (n :: l) := by rw [lk]
theorem div_lt {z w b : Int} (hb : 0 < b) (h : z < w) : (z : Rat) / (b : Rat) < (w : Rat) / (b : Rat) := by
  have hb' : (0 : Rat) < (b : Rat) := by exact_mod_cast hb
  have h' : (z : Rat) < (w : Rat) := by exact_mod_cast h
  rw [Rat.div_def, Rat.div_def]
  exact Rat.mul_lt_mul_of_pos_right h' (Rat.inv_pos.mpr hb')
theorem div_le {z w b : Int} (hb : 0 < b) (h : z ≤ w) : (z : Rat) / (b : Rat) ≤ (w : Rat) / (b : Rat) := by
  have hb' : (0 : Rat) < (b : Rat) := by exact_mod_cast hb
  have h' : (z : Rat) ≤ (w : Rat) := by exact_mod_cast h
  rw [Rat.div_def, Rat.div_def]
  exact Rat.mul_le_mul_of_nonneg_right h' (Rat.le_of_lt (Rat.inv_pos.mpr hb'))
/-- an item of a row of ints, whichever -/
theorem at_ints {ns : List Int} {i : Int} {k : D → Prop} (h0 : 0 ≤ i) (h1 : i < ns.length) (h : ∀ z ∈ ns, k (.int z)) : atK (ns.map D.int) i k := by
  have hl : i.toNat < ns.length := by omega
  refine atK_of (n := i.toNat) (x := .int ns[i.toNat]) (by omega) (by simp [hl]) (h _ (List.getElem_mem hl))
/-- a map as the laws draw them -/
structure GoodMap (ks : List Kn) : Prop where
  len : 2 ≤ ks.length
  inc : Inc ks
  bd : BdK 40 ks
  cd : ∃ be : Nat, 1 ≤ be ∧ be ≤ 9999 ∧ ∀ k ∈ ks, ∃ z w : Int, (-2000000 ≤ z ∧ z ≤ 2000000) ∧ (-2000000 ≤ w ∧ w ≤ 2000000) ∧ k.1 = (z : Rat) / ((be : Int) : Rat) ∧ k.2 = (w : Rat) / ((be : Int) : Rat)
  rng : ∃ lo hi : Rat, (ks.map (·.1)).head? = some lo ∧ (ks.map (·.1)).getLast? = some hi ∧ ∀ k ∈ ks, lo ≤ k.2 ∧ k.2 ≤ hi
theorem cutD_mid {α : Type} {f : α → D} {xs : List α} {i j : Int} (h : 0 ≤ i) (h' : 0 ≤ j) : cutD (xs.map f) (some i) (some j) = (((xs.take j.toNat).drop i.toNat)).map f := by
  have e1 : HT.sIx (xs.map f).length 0 (some i) = min i.toNat xs.length := by
    have := HT.sIx_nat (xs.map f).length 0 i.toNat
    rw [Int.toNat_of_nonneg h] at this
    rw [this, List.length_map]
  have e2 : HT.sIx (xs.map f).length (xs.map f).length (some j) = min j.toNat xs.length := by
    have := HT.sIx_nat (xs.map f).length (xs.map f).length j.toNat
    rw [Int.toNat_of_nonneg h'] at this
    rw [this, List.length_map]
  unfold cutD
  rw [e1, e2, ← List.map_drop, ← List.map_take]
  congr 1
  apply List.ext_getElem?
  intro n
  simp only [List.getElem?_take, List.getElem?_drop]
  by_cases c : i.toNat + n < j.toNat
  · rw [if_pos c]
    by_cases q : n < min j.toNat xs.length - min i.toNat xs.length
    · rw [if_pos q]
      congr 1
      omega
    · rw [if_neg q]
      symm
      rw [List.getElem?_eq_none_iff]
      omega
  · rw [if_neg c, if_neg (by omega)]

/-! ### the deck of cells -/
def deckO (b : Addr) (i c k s : Int) : O := .lst [.ref b, .int i, .int c, .int k, .int s]
/-- a deck at an address, its cells at another; at most N draws behind the cells -/
def Deck (N : Nat) (m : Mu) (a b : Addr) : Prop := ∃ (cs : List Int) (i c k s : Int), m a = some (deckO b i c k s) ∧ m b = some (.lst (cs.map D.int)) ∧ 0 ≤ i ∧ i ≤ cs.length ∧ cs.length ≤ 63 ∧ 0 ≤ c ∧ 0 ≤ k ∧ k ≤ N
/-- all else stays -/
def Ext (a : Addr) (m m' : Mu) : Prop := ∀ x o, x ≠ a → m x = some o → m' x = some o
theorem Ext.refl {a : Addr} {m : Mu} : Ext a m m := fun _ _ _ h => h
theorem Ext.trans {a : Addr} {m m' m'' : Mu} (h : Ext a m m') (h' : Ext a m' m'') : Ext a m m'' := fun x o hx e => h' x o hx (h x o hx e)
theorem Ext.put {a : Addr} {m : Mu} {o : O} : Ext a m (mput m a o) := fun x o hx e => by rw [mput_ne hx]; exact e
theorem Ext.new {a b : Addr} {m : Mu} {o : O} (h : m b = none) : Ext a m (mput m b o) := fun x u _ e => by rw [mput_ne (ne_of e h)]; exact e
/-- an address that was free may be written -/
theorem Ext.free {a x : Addr} {m m' : Mu} {o : O} (h : Ext a m m') (hx : m x = none) : Ext a m (mput m' x o) := fun y u hy e => by rw [mput_ne (ne_of e hx)]; exact h y u hy e
theorem Deck.mono {N k : Nat} {m : Mu} {a b : Addr} (h : Deck N m a b) (hk : N ≤ k) : Deck k m a b := by
  obtain ⟨cs, i, c, j, s, h1, h2, h3, h4, h5, h6, h7, h8⟩ := h
  exact ⟨cs, i, c, j, s, h1, h2, h3, h4, h5, h6, h7, by omega⟩
theorem deck_ne {m : Mu} {a b : Addr} {i c k s : Int} {cs : List Int} (h1 : m a = some (deckO b i c k s)) (h2 : m b = some (.lst (cs.map D.int))) : b ≠ a := by
  intro e
  rw [e, h1] at h2
  unfold deckO at h2
  cases cs with
  | nil => simp at h2
  | cons x xs => simp at h2
theorem Deck.put {N : Nat} {m : Mu} {a b x : Addr} {o : O} (h : Deck N m a b) (xa : x ≠ a) (xb : x ≠ b) : Deck N (mput m x o) a b := by
  obtain ⟨cs, i, e, j, s, h1, h2, h3⟩ := h
  exact ⟨cs, i, e, j, s, by rw [mput_ne (Ne.symm xa)]; exact h1, by rw [mput_ne (Ne.symm xb)]; exact h2, h3⟩
theorem Deck.na {N : Nat} {m : Mu} {a b x : Addr} (h : Deck N m a b) (hx : m x = none) : x ≠ a := by
  obtain ⟨cs, i, e, j, s, h1, h2, h3⟩ := h
  exact Ne.symm (ne_of h1 hx)
theorem Deck.nb {N : Nat} {m : Mu} {a b x : Addr} (h : Deck N m a b) (hx : m x = none) : x ≠ b := by
  obtain ⟨cs, i, e, j, s, h1, h2, h3⟩ := h
  exact Ne.symm (ne_of h2 hx)
theorem Deck.new {N : Nat} {m : Mu} {a b x : Addr} {o : O} (h : Deck N m a b) (hx : m x = none) : Deck N (mput m x o) a b := h.put (h.na hx) (h.nb hx)
def spNext : DSp := fun ds m R _ => ∃ (a b : Addr) (many : Int) (N : Nat), ds = [.ref a, .int many] ∧ Deck N m a b ∧ N < 2 ^ 60 ∧ 0 < many ∧ many < 2 ^ 64 ∧ ∀ (v : Int) (o : O), 0 ≤ v → v < many → Deck (N + 1) (mput m a o) a b → R (.int v) (mput m a o)
theorem next_call {a b : Addr} {m : Mu} {many : Int} {N : Nat} {R : DK} {E : DXK} (h : Deck N m a b) (hN : N < 2 ^ 60) (h0 : 0 < many) (h1 : many < 2 ^ 64) (hR : ∀ (v : Int) (o : O), 0 ≤ v → v < many → Deck (N + 1) (mput m a o) a b → R (.int v) (mput m a o)) : spNext [.ref a, .int many] m R E :=
  ⟨a, b, many, N, rfl, h, hN, h0, h1, hR⟩
theorem next_again {a b : Addr} {m : Mu} {o0 : O} {many : Int} {N : Nat} {R : DK} {E : DXK} (h : Deck N (mput m a o0) a b) (hN : N < 2 ^ 60) (h0 : 0 < many) (h1 : many < 2 ^ 64) (hR : ∀ (v : Int) (o : O), 0 ≤ v → v < many → Deck (N + 1) (mput m a o) a b → R (.int v) (mput m a o)) : spNext [.ref a, .int many] (mput m a o0) R E :=
  next_call h hN h0 h1 fun v o v0 v1 hD => by
    rw [mput_put] at hD ⊢
    exact hR v o v0 v1 hD
theorem mput_none {m : Mu} {a g : Addr} {o : O} (h : mput m a o g = none) : g ≠ a ∧ m g = none := by
  by_cases e : g = a
  · subst e
    rw [mput_same] at h
    cases h
  · rw [mput_ne e] at h
    exact ⟨e, h⟩
theorem Ext.none {a x : Addr} {m m' : Mu} (h : Ext a m m') (xa : x ≠ a) (hx : m' x = .none) : m x = .none := by
  cases e : m x with
  | none => rfl
  | some u =>
    have := h x u xa e
    rw [hx] at this
    cases this

/-! ### fewest knots: twice, and with a knot more -/
theorem slp_through {a n k : Kn} (h1 : a.1 < n.1) (h2 : n.1 < k.1) (h : slp a n = slp n k) : slp a k = slp a n := by
  unfold slp at *
  have e1 : n.1 - a.1 ≠ 0 := by grind
  have e2 : k.1 - n.1 ≠ 0 := by grind
  have e3 : k.1 - a.1 ≠ 0 := by grind
  grind
theorem lk_head : ∀ (l : List Kn) (a n : Kn), Inc (a :: n :: l) → ∃ n' r, lk a (n :: l) = n' :: r ∧ slp a n' = slp a n
  | [], a, n, _ => ⟨n, [], by rw [lk], rfl⟩
  | k :: l, a, n, h => by
    rw [lk_cons]
    by_cases c : slp a n = slp n k
    · rw [if_pos c]
      obtain ⟨n', r, e, e'⟩ := lk_head l a k h.skip
      exact ⟨n', r, e, e'.trans (slp_through h.lt h.tail.lt c)⟩
    · rw [if_neg c]
      exact ⟨n, _, rfl, rfl⟩
theorem lk_lk : ∀ (l : List Kn) (a : Kn), Inc (a :: l) → lk a (lk a l) = lk a l
  | [], a, _ => by simp [lk]
  | [z], a, _ => by simp [lk]
  | k :: n :: l, a, h => by
    rw [lk_cons]
    by_cases c : slp a k = slp k n
    · rw [if_pos c]
      exact lk_lk (n :: l) a h.skip
    · rw [if_neg c]
      have ih := lk_lk (n :: l) k h.tail
      obtain ⟨n', r, e, e'⟩ := lk_head l k n h.tail
      rw [e] at ih ⊢
      rw [lk_cons, e', if_neg c, ih]
theorem least_least {ks : List Kn} (h : Inc ks) : leastK (leastK ks) = leastK ks := by
  cases ks with
  | nil => rfl
  | cons a l =>
    show a :: lk a (lk a l) = a :: lk a l
    rw [lk_lk l a h]
/-- a knot amid two, on the straight between them -/
def Amid (f c s : Kn) : Prop := f.1 < c.1 ∧ c.1 < s.1 ∧ c.2 = (f.2 * (s.1 - c.1) + s.2 * (c.1 - f.1)) / (s.1 - f.1)
theorem Amid.slps {f c s : Kn} (h : Amid f c s) : slp f c = slp f s ∧ slp c s = slp f s := by
  obtain ⟨h1, h2, h3⟩ := h
  have e1 : c.1 - f.1 ≠ 0 := by grind
  have e2 : s.1 - c.1 ≠ 0 := by grind
  have e3 : s.1 - f.1 ≠ 0 := by grind
  unfold slp
  constructor
  · grind
  · grind
theorem lk_amid0 {f c s : Kn} {l : List Kn} (h : Amid f c s) : lk f (c :: s :: l) = lk f (s :: l) := by
  rw [lk_cons, if_pos (h.slps.1.trans h.slps.2.symm)]
theorem lk_amid : ∀ (l1 : List Kn) (a f c s : Kn) (l2 : List Kn), Amid f c s → Inc (a :: l1 ++ f :: s :: l2) → lk a (l1 ++ f :: c :: s :: l2) = lk a (l1 ++ f :: s :: l2)
  | [], a, f, c, s, l2, h, hi => by
    show lk a (f :: c :: s :: l2) = lk a (f :: s :: l2)
    have hi : Inc (a :: f :: s :: l2) := hi
    rw [lk_cons a f c, lk_cons a f s, h.slps.1]
    by_cases e : slp a f = slp f s
    · rw [if_pos e, if_pos e, lk_cons a c s, if_pos]
      rw [slp_through hi.lt h.1 (e.trans h.slps.1.symm), h.slps.2]
      exact e
    · rw [if_neg e, if_neg e, lk_amid0 h]
  | [k], a, f, c, s, l2, h, hi => by
    show lk a (k :: f :: c :: s :: l2) = lk a (k :: f :: s :: l2)
    rw [lk_cons a k f, lk_cons a k f]
    have i1 : Inc (a :: f :: s :: l2) := Inc.skip hi
    have i2 : Inc (k :: f :: s :: l2) := Inc.tail hi
    have e1 := lk_amid [] a f c s l2 h i1
    have e2 := lk_amid [] k f c s l2 h i2
    simp only [List.nil_append] at e1 e2
    rw [e1, e2]
  | k :: n :: l, a, f, c, s, l2, h, hi => by
    show lk a (k :: n :: (l ++ f :: c :: s :: l2)) = lk a (k :: n :: (l ++ f :: s :: l2))
    rw [lk_cons a k n, lk_cons a k n]
    have i1 : Inc (a :: (n :: l) ++ f :: s :: l2) := Inc.skip hi
    have i2 : Inc (k :: (n :: l) ++ f :: s :: l2) := Inc.tail hi
    have e1 := lk_amid (n :: l) a f c s l2 h i1
    have e2 := lk_amid (n :: l) k f c s l2 h i2
    simp only [List.cons_append] at e1 e2
    rw [e1, e2]
theorem least_amid {l1 l2 : List Kn} {f c s : Kn} (h : Amid f c s) (hi : Inc (l1 ++ f :: s :: l2)) : leastK (l1 ++ f :: c :: s :: l2) = leastK (l1 ++ f :: s :: l2) := by
  cases l1 with
  | nil =>
    show f :: lk f (c :: s :: l2) = f :: lk f (s :: l2)
    rw [lk_amid0 h]
  | cons a l =>
    show a :: lk a (l ++ f :: c :: s :: l2) = a :: lk a (l ++ f :: s :: l2)
    rw [lk_amid l a f c s l2 h hi]
theorem inc_amid {l1 l2 : List Kn} {f c s : Kn} (h : Amid f c s) (hi : Inc (l1 ++ f :: s :: l2)) : Inc (l1 ++ f :: c :: s :: l2) := by
  unfold Inc at *
  rw [List.pairwise_append] at hi ⊢
  obtain ⟨p1, p2, p3⟩ := hi
  have p4 := List.pairwise_cons.mp p2
  have p5 := List.pairwise_cons.mp p4.2
  refine ⟨p1, ?_, ?_⟩
  · refine List.pairwise_cons.mpr ⟨?_, List.pairwise_cons.mpr ⟨?_, p4.2⟩⟩
    · intro x hx
      rcases List.mem_cons.mp hx with rfl | hx
      · exact h.1
      · exact p4.1 x hx
    · intro x hx
      rcases List.mem_cons.mp hx with rfl | hx
      · exact h.2.1
      · have := p5.1 x hx
        have := h.2.1
        grind
  · intro x hx y hy
    rcases List.mem_cons.mp hy with rfl | hy
    · exact p3 x hx _ List.mem_cons_self
    · rcases List.mem_cons.mp hy with rfl | hy
      · have := p3 x hx f List.mem_cons_self
        have := h.1
        grind
      · exact p3 x hx y (List.mem_cons_of_mem _ hy)
theorem val_amid : ∀ (l1 : List Kn) {f s : Kn} {l2 : List Kn} {p : Rat}, Inc (l1 ++ f :: s :: l2) → f.1 < p → p ≤ s.1 → valK (l1 ++ f :: s :: l2) p = (f.2 * (s.1 - p) + s.2 * (p - f.1)) / (s.1 - f.1)
  | [], f, s, l2, p, hi, h1, h2 => by
    show valK (f :: s :: l2) p = _
    rw [valK, if_neg (by grind)]
  | [a], f, s, l2, p, hi, h1, h2 => by
    show valK (a :: f :: s :: l2) p = _
    rw [valK, if_pos h1]
    exact val_amid [] (Inc.tail hi) h1 h2
  | a :: b :: l, f, s, l2, p, hi, h1, h2 => by
    show valK (a :: b :: (l ++ f :: s :: l2)) p = _
    have hb : b.1 < p := by
      have hi' : Inc (b :: (l ++ f :: s :: l2)) := Inc.tail hi
      have := (List.pairwise_cons.mp hi').1 f (by simp)
      grind
    rw [valK, if_pos hb]
    exact val_amid (b :: l) (Inc.tail hi) h1 h2

/-! ### maps as functions -/
def ln (a b : Kn) (p : Rat) : Rat := a.2 + slp a b * (p - a.1)
theorem slp_mul {a b : Kn} (h : a.1 < b.1) : slp a b * (b.1 - a.1) = b.2 - a.2 := by
  unfold slp
  have e1 : b.1 - a.1 ≠ 0 := by grind
  rw [Rat.div_mul_cancel e1]
theorem ln_eq {a b : Kn} {p : Rat} (h : a.1 < b.1) : (a.2 * (b.1 - p) + b.2 * (p - a.1)) / (b.1 - a.1) = ln a b p := by
  have e1 : b.1 - a.1 ≠ 0 := by grind
  have e2 := slp_mul h
  unfold ln
  have e3 : a.2 * (b.1 - p) + b.2 * (p - a.1) = (a.2 + slp a b * (p - a.1)) * (b.1 - a.1) := by grind
  rw [e3, Rat.mul_div_cancel e1]
theorem ln_l {a b : Kn} : ln a b a.1 = a.2 := by unfold ln; grind
theorem ln_r {a b : Kn} (h : a.1 < b.1) : ln a b b.1 = b.2 := by
  have := slp_mul h
  unfold ln
  grind
theorem valK_2 {a b : Kn} {l : List Kn} {p : Rat} (h : a.1 < b.1) : valK (a :: b :: l) p = if b.1 < p then valK (b :: l) p else ln a b p := by
  rw [valK, ln_eq h]
theorem Inc.le {a k : Kn} {l : List Kn} (h : Inc (a :: l)) (hk : k ∈ a :: l) : a.1 ≤ k.1 := by
  rcases List.mem_cons.mp hk with rfl | hk
  · exact Rat.le_refl
  · have := (List.pairwise_cons.mp h).1 k hk
    grind
theorem Inc.eq_head {a k : Kn} {l : List Kn} (h : Inc (a :: l)) (hk : k ∈ a :: l) (e : k.1 ≤ a.1) : k = a := by
  rcases List.mem_cons.mp hk with rfl | hk
  · rfl
  · have := (List.pairwise_cons.mp h).1 k hk
    grind
theorem pairs_cons {α : Type} {a b : α} {l : List α} : pairs (a :: b :: l) = (a, b) :: pairs (b :: l) := by rw [pairs]
theorem pairs_mem {α : Type} : ∀ {l : List α} {p : α × α}, p ∈ pairs l → p.1 ∈ l ∧ p.2 ∈ l
  | [], p, h => by simp [pairs] at h
  | [a], p, h => by simp [pairs] at h
  | a :: b :: l, p, h => by
    rw [pairs_cons] at h
    rcases List.mem_cons.mp h with rfl | h
    · exact ⟨by simp, by simp⟩
    · have := pairs_mem h
      exact ⟨List.mem_cons_of_mem _ this.1, List.mem_cons_of_mem _ this.2⟩
theorem pairs_lt : ∀ {l : List Kn} {p : Kn × Kn}, Inc l → p ∈ pairs l → p.1.1 < p.2.1
  | [], p, _, h => by simp [pairs] at h
  | [a], p, _, h => by simp [pairs] at h
  | a :: b :: l, p, hi, h => by
    rw [pairs_cons] at h
    rcases List.mem_cons.mp h with rfl | h
    · exact hi.lt
    · exact pairs_lt hi.tail h
/-- neighbours: nothing lies between -/
theorem pairs_amid : ∀ {l : List Kn} {p : Kn × Kn} {k : Kn}, Inc l → p ∈ pairs l → k ∈ l → k.1 ≤ p.1.1 ∨ p.2.1 ≤ k.1
  | [], p, k, _, h, _ => by simp [pairs] at h
  | [a], p, k, _, h, _ => by simp [pairs] at h
  | a :: b :: l, p, k, hi, h, hk => by
    rw [pairs_cons] at h
    rcases List.mem_cons.mp h with rfl | h
    · rcases List.mem_cons.mp hk with rfl | hk
      · left; exact Rat.le_refl
      · right; exact hi.tail.le hk
    · rcases List.mem_cons.mp hk with e | hk
      · left
        rw [e]
        exact hi.le (List.mem_cons_of_mem _ (pairs_mem h).1)
      · exact pairs_amid hi.tail h hk
def loK (ks : List Kn) : Rat := match ks with
  | a :: _ => a.1
  | [] => 0
def hiK : List Kn → Rat
  | [] => 0
  | [a] => a.1
  | _ :: b :: l => hiK (b :: l)
theorem loK_cons {a : Kn} {l : List Kn} : loK (a :: l) = a.1 := rfl
theorem hiK_cons {a b : Kn} {l : List Kn} : hiK (a :: b :: l) = hiK (b :: l) := by rw [hiK]
theorem le_hiK : ∀ {l : List Kn} {k : Kn}, Inc l → k ∈ l → k.1 ≤ hiK l
  | [], k, _, h => by simp at h
  | [a], k, _, h => by
    simp at h
    subst h
    rw [hiK]
    exact Rat.le_refl
  | a :: b :: l, k, hi, h => by
    rw [hiK_cons]
    rcases List.mem_cons.mp h with rfl | h
    · have h1 := le_hiK hi.tail (k := b) List.mem_cons_self
      have := hi.lt
      grind
    · exact le_hiK hi.tail h
theorem loK_le {l : List Kn} {k : Kn} (hi : Inc l) (h : k ∈ l) : loK l ≤ k.1 := by
  cases l with
  | nil => simp at h
  | cons a l => exact hi.le h
theorem hiK_mem : ∀ {l : List Kn}, l ≠ [] → ∃ k ∈ l, k.1 = hiK l
  | [], h => absurd rfl h
  | [a], _ => ⟨a, by simp, by rw [hiK]⟩
  | a :: b :: l, _ => by
    obtain ⟨k, hk, e⟩ := hiK_mem (l := b :: l) (by simp)
    exact ⟨k, List.mem_cons_of_mem _ hk, by rw [hiK_cons]; exact e⟩
theorem loK_mem {l : List Kn} (h : l ≠ []) : ∃ k ∈ l, k.1 = loK l := by
  cases l with
  | nil => exact absurd rfl h
  | cons a l => exact ⟨a, by simp, rfl⟩
theorem hiK_last : ∀ {l : List Kn}, l ≠ [] → (l.map (·.1)).getLast? = some (hiK l)
  | [], h => absurd rfl h
  | [a], _ => by rw [hiK]; rfl
  | a :: b :: l, _ => by
    rw [hiK_cons, List.map_cons, List.getLast?_cons, hiK_last (by simp)]
    rfl
theorem hiK_lastK {l : List Kn} {z : Kn} (h : l.getLast? = some z) : hiK l = z.1 := by
  have h0 : l ≠ [] := by
    intro e
    subst e
    simp at h
  have := hiK_last h0
  rw [List.getLast?_map, h] at this
  simpa using this.symm
/-- where no knot lies between there is one piece -/
theorem piece_of : ∀ {l : List Kn} {u v : Rat}, Inc l → 2 ≤ l.length → loK l ≤ u → u ≤ v → v ≤ hiK l → (∀ k ∈ l, k.1 ≤ u ∨ v ≤ k.1) → ∃ p ∈ pairs l, p.1.1 ≤ u ∧ v ≤ p.2.1
  | [], u, v, _, h, _, _, _, _ => by simp at h
  | [a], u, v, _, h, _, _, _, _ => by simp at h
  | [a, b], u, v, hi, _, h1, huv, h2, hn => ⟨(a, b), by simp [pairs], h1, by rw [hiK_cons, hiK] at h2; exact h2⟩
  | a :: b :: c :: l, u, v, hi, _, h1, huv, h2, hn => by
    by_cases hb : v ≤ b.1
    · exact ⟨(a, b), by rw [pairs_cons]; exact List.mem_cons_self, h1, hb⟩
    · have hb' : b.1 ≤ u := by
        rcases hn b (by simp) with h | h
        · exact h
        · exact absurd h hb
      obtain ⟨p, hp, q⟩ := piece_of (l := b :: c :: l) hi.tail (by simp) hb' huv (by rw [hiK_cons] at h2; exact h2) (fun k hk => hn k (List.mem_cons_of_mem _ hk))
      exact ⟨p, by rw [pairs_cons]; exact List.mem_cons_of_mem _ hp, q⟩
theorem val_piece : ∀ {l : List Kn} {p : Kn × Kn} {t : Rat}, Inc l → p ∈ pairs l → p.1.1 ≤ t → t ≤ p.2.1 → valK l t = ln p.1 p.2 t
  | [], p, t, _, h, _, _ => by simp [pairs] at h
  | [a], p, t, _, h, _, _ => by simp [pairs] at h
  | a :: b :: l, p, t, hi, h, h1, h2 => by
    rw [valK_2 hi.lt]
    rw [pairs_cons] at h
    rcases List.mem_cons.mp h with rfl | h
    · rw [if_neg (by grind)]
    · by_cases hb : b.1 < t
      · rw [if_pos hb]
        exact val_piece hi.tail h h1 h2
      · rw [if_neg hb]
        have hb' := hi.tail.le (pairs_mem h).1
        have e : p.1 = b := hi.tail.eq_head (pairs_mem h).1 (by grind)
        have et : t = b.1 := by grind
        rw [e, et, ln_r hi.lt, ln_l]
theorem val_mem {l : List Kn} {k : Kn} (hi : Inc l) (h2 : 2 ≤ l.length) (hk : k ∈ l) : valK l k.1 = k.2 := by
  obtain ⟨p, hp, h1, h3⟩ := piece_of hi h2 (loK_le hi hk) Rat.le_refl (le_hiK hi hk) (u := k.1) (v := k.1) (fun j hj => by grind)
  rw [val_piece hi hp h1 h3]
  rcases pairs_amid hi hp hk with h | h
  · have : k = p.1 := by
      have e : k.1 = p.1.1 := by grind
      have m1 := (pairs_mem hp).1
      have := List.pairwise_iff_getElem.mp hi
      obtain ⟨i, hi', ei⟩ := List.mem_iff_getElem.mp hk
      obtain ⟨j, hj', ej⟩ := List.mem_iff_getElem.mp m1
      rcases Nat.lt_trichotomy i j with c | c | c
      · have := this i j hi' hj' c
        rw [ei, ej] at this
        grind
      · subst c
        rw [← ei, ← ej]
      · have := this j i hj' hi' c
        rw [ei, ej] at this
        grind
    rw [this, ln_l]
  · have : k = p.2 := by
      have e : k.1 = p.2.1 := by grind
      have m1 := (pairs_mem hp).2
      have := List.pairwise_iff_getElem.mp hi
      obtain ⟨i, hi', ei⟩ := List.mem_iff_getElem.mp hk
      obtain ⟨j, hj', ej⟩ := List.mem_iff_getElem.mp m1
      rcases Nat.lt_trichotomy i j with c | c | c
      · have := this i j hi' hj' c
        rw [ei, ej] at this
        grind
      · subst c
        rw [← ei, ← ej]
      · have := this j i hj' hi' c
        rw [ei, ej] at this
        grind
    rw [this, ln_r (pairs_lt hi hp)]
/-- a straight piece stays between its ends -/
theorem ln_amid {a b : Kn} {t L U : Rat} (h : a.1 < b.1) (h1 : a.1 ≤ t) (h2 : t ≤ b.1) (la : L ≤ a.2 ∧ a.2 ≤ U) (lb : L ≤ b.2 ∧ b.2 ≤ U) : L ≤ ln a b t ∧ ln a b t ≤ U := by
  rw [← ln_eq h]
  have hw : 0 < b.1 - a.1 := by grind
  have e : ∀ c : Rat, c = (c * (b.1 - t) + c * (t - a.1)) / (b.1 - a.1) := by
    intro c
    have : c * (b.1 - t) + c * (t - a.1) = c * (b.1 - a.1) := by grind
    rw [this, Rat.mul_div_cancel (by grind)]
  have mono : ∀ x y : Rat, x ≤ y → x / (b.1 - a.1) ≤ y / (b.1 - a.1) := by
    intro x y hxy
    rw [Rat.div_def, Rat.div_def]
    exact Rat.mul_le_mul_of_nonneg_right hxy (Rat.le_of_lt (Rat.inv_pos.mpr hw))
  have p1 : 0 ≤ b.1 - t := by grind
  have p2 : 0 ≤ t - a.1 := by grind
  constructor
  · rw [e L]
    refine mono _ _ ?_
    have := Rat.mul_le_mul_of_nonneg_right la.1 p1
    have := Rat.mul_le_mul_of_nonneg_right lb.1 p2
    grind
  · rw [e U]
    refine mono _ _ ?_
    have := Rat.mul_le_mul_of_nonneg_right la.2 p1
    have := Rat.mul_le_mul_of_nonneg_right lb.2 p2
    grind
theorem val_amid' {l : List Kn} {t L U : Rat} (hi : Inc l) (h2 : 2 ≤ l.length) (h : ∀ k ∈ l, L ≤ k.2 ∧ k.2 ≤ U) (t1 : loK l ≤ t) (t2 : t ≤ hiK l) : L ≤ valK l t ∧ valK l t ≤ U := by
  obtain ⟨p, hp, h1, h3⟩ := piece_of hi h2 t1 Rat.le_refl t2 (u := t) (v := t) (fun j hj => by grind)
  rw [val_piece hi hp h1 h3]
  exact ln_amid (pairs_lt hi hp) h1 h3 (h _ (pairs_mem hp).1) (h _ (pairs_mem hp).2)
theorem ln_skip {a k n : Kn} {p : Rat} (h1 : a.1 < k.1) (h2 : k.1 < n.1) (h : slp a k = slp k n) : ln a n p = ln a k p ∧ ln k n p = ln a k p := by
  have e := slp_through h1 h2 h
  have e2 := slp_mul h1
  unfold ln
  rw [e, ← h]
  constructor
  · rfl
  · grind
theorem val_lk {p : Rat} : ∀ (l : List Kn) (a : Kn), Inc (a :: l) → valK (a :: lk a l) p = valK (a :: l) p
  | [], a, _ => by rw [lk]
  | [z], a, _ => by rw [lk]
  | k :: n :: l, a, h => by
    rw [lk_cons]
    have hk := h.lt
    have hn := h.tail.lt
    by_cases c : slp a k = slp k n
    · rw [if_pos c, val_lk (n :: l) a h.skip, valK_2 h.skip.lt, valK_2 hk, valK_2 hn]
      have e := ln_skip (p := p) hk hn c
      by_cases c1 : n.1 < p
      · rw [if_pos c1, if_pos (by grind), if_pos c1]
      · rw [if_neg c1, e.1]
        by_cases c2 : k.1 < p
        · rw [if_pos c2, if_neg c1, e.2]
        · rw [if_neg c2]
    · rw [if_neg c]
      have ih := val_lk (p := p) (n :: l) k h.tail
      have : ∃ z r, lk k (n :: l) = z :: r := by
        have := lk_ne (a := k) (l := n :: l) (by simp)
        cases e : lk k (n :: l) with
        | nil => exact absurd e this
        | cons z r => exact ⟨z, r, rfl⟩
      obtain ⟨z, r, e⟩ := this
      rw [valK_2 hk, valK_2 hk, ih]
theorem val_least {ks : List Kn} {p : Rat} (h : Inc ks) : valK (leastK ks) p = valK ks p := by
  cases ks with
  | nil => rfl
  | cons a l => exact val_lk l a h
theorem hiK_lk : ∀ (l : List Kn) (a : Kn), hiK (a :: lk a l) = hiK (a :: l)
  | [], a => by rw [lk]
  | [z], a => by rw [lk]
  | k :: n :: l, a => by
    rw [lk_cons]
    by_cases c : slp a k = slp k n
    · rw [if_pos c, hiK_lk (n :: l) a, hiK_cons, hiK_cons, hiK_cons]
    · rw [if_neg c, hiK_cons, hiK_cons, hiK_lk (n :: l) k]
theorem hiK_least (ks : List Kn) : hiK (leastK ks) = hiK ks := by
  cases ks with
  | nil => rfl
  | cons a l => exact hiK_lk l a
theorem loK_least (ks : List Kn) : loK (leastK ks) = loK ks := by
  cases ks with
  | nil => rfl
  | cons a l => rfl
/-! ### one map behind another: the knots -/
/-- the points at which the second behind the first may bend -/
def Bends (one o : List Kn) (x : Rat) : Prop := x ∈ one.map (·.1) ∨ ∃ p ∈ pairs one, ∃ k ∈ o, ((p.1.2 < k.1 ∧ k.1 < p.2.2) ∨ (p.2.2 < k.1 ∧ k.1 < p.1.2)) ∧ x = p.1.1 + (k.1 - p.1.2) / slp p.1 p.2
structure IsBeh (one o ks : List Kn) : Prop where
  inc : Inc ks
  xs : ∀ x, x ∈ ks.map (·.1) ↔ Bends one o x
  ys : ∀ k ∈ ks, k.2 = valK o (valK one k.1)
theorem sorted_ext : ∀ {l l' : List Rat}, l.Pairwise (fun a b => a < b) → l'.Pairwise (fun a b => a < b) → (∀ x, x ∈ l ↔ x ∈ l') → l = l'
  | [], [], _, _, _ => rfl
  | [], b :: l', _, _, h => by
    have := (h b).mpr (by simp)
    simp at this
  | a :: l, [], _, _, h => by
    have := (h a).mp (by simp)
    simp at this
  | a :: l, b :: l', h1, h2, h => by
    have p1 := List.pairwise_cons.mp h1
    have p2 := List.pairwise_cons.mp h2
    have e : a = b := by
      rcases List.mem_cons.mp ((h a).mp (by simp)) with e | e
      · exact e
      · rcases List.mem_cons.mp ((h b).mpr (by simp)) with e' | e'
        · exact e'.symm
        · have := p1.1 b e'
          have := p2.1 a e
          grind
    subst e
    congr 1
    refine sorted_ext p1.2 p2.2 fun x => ⟨fun hx => ?_, fun hx => ?_⟩
    · rcases List.mem_cons.mp ((h x).mp (List.mem_cons_of_mem _ hx)) with e | e
      · have := p1.1 x hx
        grind
      · exact e
    · rcases List.mem_cons.mp ((h x).mpr (List.mem_cons_of_mem _ hx)) with e | e
      · have := p2.1 x hx
        grind
      · exact e
theorem graph_ext {F : Rat → Rat} : ∀ {l l' : List Kn}, l.map (·.1) = l'.map (·.1) → (∀ k ∈ l, k.2 = F k.1) → (∀ k ∈ l', k.2 = F k.1) → l = l'
  | [], [], _, _, _ => rfl
  | [], b :: l', h, _, _ => by simp at h
  | a :: l, [], h, _, _ => by simp at h
  | a :: l, b :: l', h, h1, h2 => by
    simp only [List.map_cons, List.cons.injEq] at h
    have e : a = b := by
      have q1 := h1 a (by simp)
      have q2 := h2 b (by simp)
      exact Prod.ext h.1 (by rw [q1, q2, h.1])
    rw [e, graph_ext h.2 (fun k hk => h1 k (List.mem_cons_of_mem _ hk)) (fun k hk => h2 k (List.mem_cons_of_mem _ hk))]
theorem IsBeh.uniq {one o l l' : List Kn} (h : IsBeh one o l) (h' : IsBeh one o l') : l = l' := by
  refine graph_ext (F := fun x => valK o (valK one x)) ?_ h.ys h'.ys
  have p1 : (l.map (·.1)).Pairwise (fun a b => a < b) := by rw [List.pairwise_map]; exact h.inc
  have p2 : (l'.map (·.1)).Pairwise (fun a b => a < b) := by rw [List.pairwise_map]; exact h'.inc
  exact sorted_ext p1 p2 fun x => (h.xs x).trans (h'.xs x).symm

/-! ### one map behind another: values and sizes -/
theorem rlt (a b : Rat) : a < b ∨ b ≤ a := by
  by_cases h : a < b
  · exact .inl h
  · exact .inr (Rat.not_lt.mp h)
theorem pos_of_mul {s w : Rat} (hw : 0 < w) (h : 0 < s * w) : 0 < s := by
  rcases rlt 0 s with c | c
  · exact c
  · have := Rat.mul_le_mul_of_nonneg_right c (Rat.le_of_lt hw)
    grind
theorem neg_of_mul {s w : Rat} (hw : 0 < w) (h : s * w < 0) : s < 0 := by
  rcases rlt s 0 with c | c
  · exact c
  · have := Rat.mul_le_mul_of_nonneg_right c (Rat.le_of_lt hw)
    grind
/-- where a straight piece comes to a height amid -/
def inv (a b : Kn) (y : Rat) : Rat := a.1 + (y - a.2) / slp a b
def Amids (a b : Kn) (y : Rat) : Prop := (a.2 < y ∧ y < b.2) ∨ (b.2 < y ∧ y < a.2)
theorem inv_ok {a b : Kn} {y : Rat} (h : a.1 < b.1) (hy : Amids a b y) : a.1 < inv a b y ∧ inv a b y < b.1 ∧ ln a b (inv a b y) = y ∧ slp a b ≠ 0 := by
  have e := slp_mul h
  have hw : 0 < b.1 - a.1 := by grind
  unfold inv ln
  rcases hy with ⟨h1, h2⟩ | ⟨h1, h2⟩
  · have s0 : 0 < slp a b := pos_of_mul hw (by grind)
    have d : (y - a.2) / slp a b * slp a b = y - a.2 := Rat.div_mul_cancel (by grind)
    have d0 : 0 < (y - a.2) / slp a b := pos_of_mul s0 (by grind)
    have d1 : 0 < b.1 - a.1 - (y - a.2) / slp a b := pos_of_mul s0 (by grind)
    refine ⟨by grind, by grind, by grind, by grind⟩
  · have s0 : slp a b < 0 := neg_of_mul hw (by grind)
    have d : (y - a.2) / slp a b * slp a b = y - a.2 := Rat.div_mul_cancel (by grind)
    have d0 : 0 < (y - a.2) / slp a b := pos_of_mul (w := - slp a b) (by grind) (by grind)
    have d1 : 0 < b.1 - a.1 - (y - a.2) / slp a b := pos_of_mul (w := - slp a b) (by grind) (by grind)
    refine ⟨by grind, by grind, by grind, by grind⟩
theorem ln_mono {a b : Kn} {s t : Rat} (h : 0 < slp a b) : ln a b s < ln a b t ↔ s < t := by
  unfold ln
  constructor
  · intro q
    have : 0 < (t - s) * slp a b := by grind
    have := pos_of_mul h this
    grind
  · intro q
    have := Rat.mul_pos h (show 0 < t - s by grind)
    grind
theorem ln_anti {a b : Kn} {s t : Rat} (h : slp a b < 0) : ln a b s < ln a b t ↔ t < s := by
  unfold ln
  constructor
  · intro q
    have : 0 < (s - t) * (- slp a b) := by grind
    have := pos_of_mul (w := - slp a b) (by grind) this
    grind
  · intro q
    have := Rat.mul_pos (show 0 < - slp a b by grind) (show 0 < s - t by grind)
    grind
theorem ln_inj {a b : Kn} {s t : Rat} (h : slp a b ≠ 0) (e : ln a b s = ln a b t) : s = t := by
  unfold ln at e
  have : slp a b * (s - t) = 0 := by grind
  rcases Rat.mul_eq_zero.mp this with q | q
  · exact absurd q h
  · grind
theorem ln_affine {u v : Kn} {A B t : Rat} (h : u.1 < v.1) (hu : u.2 = A * u.1 + B) (hv : v.2 = A * v.1 + B) : ln u v t = A * t + B := by
  have e := slp_mul h
  have : slp u v = A := by
    have e1 : v.1 - u.1 ≠ 0 := by grind
    unfold slp
    rw [show v.2 - u.2 = A * (v.1 - u.1) by grind, Rat.mul_div_cancel e1]
  unfold ln
  grind
/-- a map of the stretch from L to U into itself -/
structure Good (L U : Rat) (ks : List Kn) : Prop where
  len : 2 ≤ ks.length
  inc : Inc ks
  lo : loK ks = L
  hi : hiK ks = U
  rng : ∀ k ∈ ks, L ≤ k.2 ∧ k.2 ≤ U
theorem Good.le {L U : Rat} {ks : List Kn} (h : Good L U ks) {k : Kn} (hk : k ∈ ks) : L ≤ k.1 ∧ k.1 ≤ U := by
  have := loK_le h.inc hk
  have := le_hiK h.inc hk
  rw [h.lo] at *
  rw [h.hi] at *
  exact ⟨by assumption, by assumption⟩
theorem Good.ne {L U : Rat} {ks : List Kn} (h : Good L U ks) : ks ≠ [] := by
  intro e
  have := h.len
  rw [e] at this
  simp at this
theorem Good.lt {L U : Rat} {ks : List Kn} (h : Good L U ks) : L < U := by
  match ks, h with
  | a :: b :: l, h =>
    have h1 := h.inc.lt
    have h2 := (h.le (k := b) (by simp)).2
    have h3 := h.lo
    rw [loK_cons] at h3
    grind
theorem Good.val {L U t : Rat} {ks : List Kn} (h : Good L U ks) (t1 : L ≤ t) (t2 : t ≤ U) : L ≤ valK ks t ∧ valK ks t ≤ U :=
  val_amid' h.inc h.len h.rng (by rw [h.lo]; exact t1) (by rw [h.hi]; exact t2)
theorem Good.piece {L U t : Rat} {ks : List Kn} (h : Good L U ks) (t1 : L ≤ t) (t2 : t ≤ U) : ∃ p ∈ pairs ks, p.1.1 ≤ t ∧ t ≤ p.2.1 ∧ valK ks t = ln p.1 p.2 t := by
  obtain ⟨p, hp, h1, h3⟩ := piece_of h.inc h.len (u := t) (v := t) (by rw [h.lo]; exact t1) Rat.le_refl (by rw [h.hi]; exact t2) (fun j hj => by grind)
  exact ⟨p, hp, h1, h3, val_piece h.inc hp h1 h3⟩
theorem Good.least {L U : Rat} {ks : List Kn} (h : Good L U ks) : Good L U (leastK ks) :=
  ⟨leastK_len h.len, h.inc.least, by rw [loK_least]; exact h.lo, by rw [hiK_least]; exact h.hi, fun k hk => h.rng k ((leastK_sub ks).subset hk)⟩
section
variable {L U : Rat} {one o ks : List Kn}
theorem Bends.rng (h1 : Good L U one) {x : Rat} (hx : Bends one o x) : L ≤ x ∧ x ≤ U := by
  rcases hx with hx | ⟨p, hp, k, hk, hy, rfl⟩
  · obtain ⟨k, hk, rfl⟩ := List.mem_map.mp hx
    exact h1.le hk
  · have q := inv_ok (pairs_lt h1.inc hp) hy
    have a1 := h1.le (pairs_mem hp).1
    have a2 := h1.le (pairs_mem hp).2
    unfold inv at q
    grind
theorem IsBeh.mem (h : IsBeh one o ks) {x : Rat} (hx : Bends one o x) : ∃ k ∈ ks, k.1 = x := by
  have := (h.xs x).mpr hx
  obtain ⟨k, hk, e⟩ := List.mem_map.mp this
  exact ⟨k, hk, e⟩
theorem IsBeh.bend (h : IsBeh one o ks) {k : Kn} (hk : k ∈ ks) : Bends one o k.1 := (h.xs k.1).mp (List.mem_map_of_mem hk)
theorem IsBeh.good (h : IsBeh one o ks) (h1 : Good L U one) (h2 : Good L U o) : Good L U ks := by
  have hlt := h1.lt
  obtain ⟨k0, hk0, e0⟩ := loK_mem h1.ne
  obtain ⟨k1, hk1, e1⟩ := hiK_mem h1.ne
  obtain ⟨a, ha, ea⟩ := h.mem (x := L) (.inl (by rw [← h1.lo, ← e0]; exact List.mem_map_of_mem hk0))
  obtain ⟨b, hb, eb⟩ := h.mem (x := U) (.inl (by rw [← h1.hi, ← e1]; exact List.mem_map_of_mem hk1))
  have hne : ks ≠ [] := by
    intro e
    rw [e] at ha
    simp at ha
  have r : ∀ k ∈ ks, L ≤ k.1 ∧ k.1 ≤ U := fun k hk => (h.bend hk).rng h1
  refine ⟨?_, h.inc, ?_, ?_, ?_⟩
  · rcases ks with _ | ⟨c, _ | ⟨d, l⟩⟩
    · simp at ha
    · simp at ha hb
      rw [ha] at ea
      rw [hb] at eb
      grind
    · simp
  · have := loK_le h.inc ha
    obtain ⟨c, hc, ec⟩ := loK_mem hne
    have := r c hc
    grind
  · have := le_hiK h.inc hb
    obtain ⟨c, hc, ec⟩ := hiK_mem hne
    have := r c hc
    grind
  · intro k hk
    rw [h.ys k hk]
    have q := h1.val (r k hk).1 (r k hk).2
    exact h2.val q.1 q.2
/-- neighbours of the new knots lie in one piece of the first, and their values in one of the second -/
theorem IsBeh.pair (h : IsBeh one o ks) (h1 : Good L U one) (h2 : Good L U o) {w : Kn × Kn} (hw : w ∈ pairs ks) :
    ∃ p ∈ pairs one, p.1.1 ≤ w.1.1 ∧ w.2.1 ≤ p.2.1 ∧ (slp p.1 p.2 = 0 ∨ (slp p.1 p.2 ≠ 0 ∧ ∃ q ∈ pairs o, ∀ t, w.1.1 ≤ t → t ≤ w.2.1 → q.1.1 ≤ ln p.1 p.2 t ∧ ln p.1 p.2 t ≤ q.2.1)) := by
  have g := h.good h1 h2
  have hlt := pairs_lt g.inc hw
  have r1 := g.le (pairs_mem hw).1
  have r2 := g.le (pairs_mem hw).2
  obtain ⟨p, hp, p1, p2⟩ := piece_of h1.inc h1.len (u := w.1.1) (v := w.2.1) (by rw [h1.lo]; exact r1.1) (Rat.le_of_lt hlt) (by rw [h1.hi]; exact r2.2) (fun k hk => by
    obtain ⟨c, hc, ec⟩ := h.mem (x := k.1) (.inl (List.mem_map_of_mem hk))
    have := pairs_amid g.inc hw hc
    rw [ec] at this
    exact this)
  refine ⟨p, hp, p1, p2, ?_⟩
  have plt := pairs_lt h1.inc hp
  by_cases s0 : slp p.1 p.2 = 0
  · exact .inl s0
  · refine .inr ⟨s0, ?_⟩
    have ra := h1.rng _ (pairs_mem hp).1
    have rb := h1.rng _ (pairs_mem hp).2
    have rng : ∀ t, w.1.1 ≤ t → t ≤ w.2.1 → L ≤ ln p.1 p.2 t ∧ ln p.1 p.2 t ≤ U := fun t t1 t2 => ln_amid plt (by grind) (by grind) ra rb
    have amid : ∀ k ∈ o, ∀ u v : Rat, w.1.1 ≤ u → u ≤ w.2.1 → w.1.1 ≤ v → v ≤ w.2.1 → ¬ (ln p.1 p.2 u < k.1 ∧ k.1 < ln p.1 p.2 v) := by
      intro k hk u v u1 u2 v1 v2 ⟨q1, q2⟩
      have l1 := ln_l (a := p.1) (b := p.2)
      have l2 := ln_r plt
      have key : Amids p.1 p.2 k.1 := by
        rcases rlt 0 (slp p.1 p.2) with c | c
        · left
          have m1 := ln_mono (a := p.1) (b := p.2) (s := u) (t := p.1.1) c
          have m2 := ln_mono (a := p.1) (b := p.2) (s := p.2.1) (t := v) c
          rw [l1] at m1
          rw [l2] at m2
          constructor <;> grind
        · right
          have c' : slp p.1 p.2 < 0 := by grind
          have m1 := ln_anti (a := p.1) (b := p.2) (s := u) (t := p.2.1) c'
          have m2 := ln_anti (a := p.1) (b := p.2) (s := p.1.1) (t := v) c'
          rw [l2] at m1
          rw [l1] at m2
          constructor <;> grind
      obtain ⟨i1, i2, i3, _⟩ := inv_ok plt key
      obtain ⟨c, hc, ec⟩ := h.mem (x := inv p.1 p.2 k.1) (.inr ⟨p, hp, k, hk, key, rfl⟩)
      have am := pairs_amid g.inc hw hc
      rw [ec] at am
      rw [← i3] at q1 q2
      rcases rlt 0 (slp p.1 p.2) with c | c
      · rw [ln_mono c] at q1 q2
        grind
      · rw [ln_anti (by grind)] at q1 q2
        grind
    have w1 := rng w.1.1 Rat.le_refl (Rat.le_of_lt hlt)
    have w2 := rng w.2.1 (Rat.le_of_lt hlt) Rat.le_refl
    rcases rlt 0 (slp p.1 p.2) with c | c
    · obtain ⟨q, hq, q1, q2⟩ := piece_of h2.inc h2.len (u := ln p.1 p.2 w.1.1) (v := ln p.1 p.2 w.2.1) (by rw [h2.lo]; exact w1.1) (Rat.le_of_lt ((ln_mono c).mpr hlt)) (by rw [h2.hi]; exact w2.2) (fun k hk => by
        have := amid k hk w.1.1 w.2.1 Rat.le_refl (Rat.le_of_lt hlt) (Rat.le_of_lt hlt) Rat.le_refl
        grind)
      refine ⟨q, hq, fun t t1 t2 => ?_⟩
      have m1 := ln_mono (a := p.1) (b := p.2) (s := t) (t := w.1.1) c
      have m2 := ln_mono (a := p.1) (b := p.2) (s := w.2.1) (t := t) c
      constructor <;> grind
    · have c' : slp p.1 p.2 < 0 := by grind
      obtain ⟨q, hq, q1, q2⟩ := piece_of h2.inc h2.len (u := ln p.1 p.2 w.2.1) (v := ln p.1 p.2 w.1.1) (by rw [h2.lo]; exact w2.1) (Rat.le_of_lt ((ln_anti c').mpr hlt)) (by rw [h2.hi]; exact w1.2) (fun k hk => by
        have := amid k hk w.2.1 w.1.1 (Rat.le_of_lt hlt) Rat.le_refl Rat.le_refl (Rat.le_of_lt hlt)
        grind)
      refine ⟨q, hq, fun t t1 t2 => ?_⟩
      have m1 := ln_anti (a := p.1) (b := p.2) (s := w.1.1) (t := t) c'
      have m2 := ln_anti (a := p.1) (b := p.2) (s := t) (t := w.2.1) c'
      constructor <;> grind
theorem IsBeh.val (h : IsBeh one o ks) (h1 : Good L U one) (h2 : Good L U o) {t : Rat} (t1 : L ≤ t) (t2 : t ≤ U) : valK ks t = valK o (valK one t) := by
  have g := h.good h1 h2
  obtain ⟨w, hw, w1, w2, e⟩ := g.piece t1 t2
  have hlt := pairs_lt g.inc hw
  have y1 := h.ys _ (pairs_mem hw).1
  have y2 := h.ys _ (pairs_mem hw).2
  obtain ⟨p, hp, p1, p2, hc⟩ := h.pair h1 h2 hw
  have v1 := val_piece h1.inc hp p1 (show w.1.1 ≤ p.2.1 by grind)
  have v2 := val_piece h1.inc hp (show p.1.1 ≤ w.2.1 by grind) p2
  have vt := val_piece h1.inc hp (show p.1.1 ≤ t by grind) (show t ≤ p.2.1 by grind)
  rw [v1] at y1
  rw [v2] at y2
  rw [e, vt]
  rcases hc with c | ⟨c, q, hq, hr⟩
  · have k : ∀ s, ln p.1 p.2 s = p.1.2 := by
      intro s
      unfold ln
      rw [c]
      grind
    rw [k] at y1 y2 ⊢
    have := ln_affine (A := 0) (B := valK o p.1.2) (t := t) hlt (by grind) (by grind)
    rw [this]
    grind
  · have z1 := val_piece h2.inc hq (hr _ Rat.le_refl (Rat.le_of_lt hlt)).1 (hr _ Rat.le_refl (Rat.le_of_lt hlt)).2
    have z2 := val_piece h2.inc hq (hr _ (Rat.le_of_lt hlt) Rat.le_refl).1 (hr _ (Rat.le_of_lt hlt) Rat.le_refl).2
    have zt := val_piece h2.inc hq (hr _ w1 w2).1 (hr _ w1 w2).2
    rw [z1] at y1
    rw [z2] at y2
    rw [zt]
    have := ln_affine (A := slp q.1 q.2 * slp p.1 p.2) (B := q.1.2 + slp q.1 q.2 * (p.1.2 - slp p.1 p.2 * p.1.1 - q.1.1)) (t := t) hlt (by rw [y1]; unfold ln; grind) (by rw [y2]; unfold ln; grind)
    rw [this]
    unfold ln
    grind
end

/-! ### the knots as the program puts them, and their sizes -/
instance (a b : Kn) (y : Rat) : Decidable (Amids a b y) := by unfold Amids; exact inferInstance
def amidF (a b : Kn) (o : List Kn) : List Kn := (o.filter fun k => decide (Amids a b k.1)).map fun k => (inv a b k.1, k.2)
def amidK (a b : Kn) (o : List Kn) : List Kn := if b.2 < a.2 then (amidF a b o).reverse else amidF a b o
def behL (o : List Kn) : List Kn → List Kn
  | a :: b :: l => amidK a b o ++ (b.1, valK o b.2) :: behL o (b :: l)
  | _ => []
def behK (one o : List Kn) : List Kn := match one with
  | a :: l => (a.1, valK o a.2) :: behL o (a :: l)
  | [] => []
theorem behL_cons {o : List Kn} {a b : Kn} {l : List Kn} : behL o (a :: b :: l) = amidK a b o ++ (b.1, valK o b.2) :: behL o (b :: l) := by rw [behL]
theorem mem_amidK {a b : Kn} {o : List Kn} {k : Kn} : k ∈ amidK a b o ↔ ∃ z ∈ o, Amids a b z.1 ∧ k = (inv a b z.1, z.2) := by
  have : k ∈ amidK a b o ↔ k ∈ amidF a b o := by
    unfold amidK
    split
    · exact List.mem_reverse
    · exact Iff.rfl
  rw [this]
  unfold amidF
  simp only [List.mem_map, List.mem_filter, decide_eq_true_eq]
  constructor
  · rintro ⟨z, ⟨h1, h2⟩, rfl⟩
    exact ⟨z, h1, h2, rfl⟩
  · rintro ⟨z, h1, h2, rfl⟩
    exact ⟨z, ⟨h1, h2⟩, rfl⟩
theorem inc_amidK {a b : Kn} {o : List Kn} (h : a.1 < b.1) (ho : Inc o) : Inc (amidK a b o) := by
  have e := slp_mul h
  have hw : 0 < b.1 - a.1 := by grind
  have fl : (o.filter fun k => decide (Amids a b k.1)).Pairwise fun x y => x.1 < y.1 := List.Pairwise.filter _ ho
  have dv : ∀ x y : Rat, slp a b ≠ 0 → (inv a b y - inv a b x) * slp a b = y - x := by
    intro x y s0
    unfold inv
    have d1 : (y - a.2) / slp a b * slp a b = y - a.2 := Rat.div_mul_cancel s0
    have d2 : (x - a.2) / slp a b * slp a b = x - a.2 := Rat.div_mul_cancel s0
    grind
  unfold amidK Inc
  split
  · rename_i c
    have s0 : slp a b < 0 := neg_of_mul hw (by grind)
    rw [List.pairwise_reverse]
    unfold amidF
    rw [List.pairwise_map]
    refine fl.imp fun {x y} hxy => ?_
    have := dv x.1 y.1 (by grind)
    have := pos_of_mul (s := inv a b x.1 - inv a b y.1) (w := - slp a b) (by grind) (by grind)
    show inv a b y.1 < inv a b x.1
    grind
  · rename_i c
    by_cases c2 : a.2 = b.2
    · have : (o.filter fun k => decide (Amids a b k.1)) = [] := by
        rw [List.filter_eq_nil_iff]
        intro k hk
        rw [decide_eq_true_eq]
        unfold Amids
        grind
      unfold amidF
      rw [this]
      exact .nil
    · have s0 : 0 < slp a b := pos_of_mul hw (by grind)
      unfold amidF
      rw [List.pairwise_map]
      refine fl.imp fun {x y} hxy => ?_
      have := dv x.1 y.1 (by grind)
      have := pos_of_mul (s := inv a b y.1 - inv a b x.1) (w := slp a b) (by grind) (by grind)
      show inv a b x.1 < inv a b y.1
      grind
theorem amidK_amid {a b : Kn} {o : List Kn} {k : Kn} (h : a.1 < b.1) (hk : k ∈ amidK a b o) : a.1 < k.1 ∧ k.1 < b.1 := by
  obtain ⟨z, hz, hy, rfl⟩ := mem_amidK.mp hk
  have := inv_ok h hy
  exact ⟨this.1, this.2.1⟩
theorem behL_inc {o : List Kn} (ho : Inc o) : ∀ (l : List Kn) (a : Kn), Inc (a :: l) → Inc (behL o (a :: l)) ∧ ∀ k ∈ behL o (a :: l), a.1 < k.1
  | [], a, _ => by simp [behL, Inc]
  | b :: l, a, h => by
    obtain ⟨i1, i2⟩ := behL_inc ho l b h.tail
    have hlt := h.lt
    rw [behL_cons]
    constructor
    · unfold Inc
      rw [List.pairwise_append]
      refine ⟨inc_amidK hlt ho, List.pairwise_cons.mpr ⟨fun k hk => i2 k hk, i1⟩, fun x hx y hy => ?_⟩
      have q := amidK_amid hlt hx
      rcases List.mem_cons.mp hy with rfl | hy
      · exact q.2
      · have := i2 y hy
        grind
    · intro k hk
      rcases List.mem_append.mp hk with hk | hk
      · exact (amidK_amid hlt hk).1
      · rcases List.mem_cons.mp hk with rfl | hk
        · exact hlt
        · have := i2 k hk
          grind
theorem mem_behL {o : List Kn} {x : Rat} : ∀ (l : List Kn) (a : Kn), x ∈ (behL o (a :: l)).map (·.1) ↔ x ∈ l.map (·.1) ∨ ∃ p ∈ pairs (a :: l), ∃ k ∈ o, Amids p.1 p.2 k.1 ∧ x = inv p.1 p.2 k.1
  | [], a => by simp [behL, pairs]
  | b :: l, a => by
    rw [behL_cons, pairs_cons]
    have ih := mem_behL (x := x) (o := o) l b
    simp only [List.map_append, List.map_cons, List.mem_append, List.mem_cons]
    rw [ih]
    constructor
    · rintro (h | h | h | h)
      · obtain ⟨k, hk, rfl⟩ := List.mem_map.mp h
        obtain ⟨z, hz, hy, rfl⟩ := mem_amidK.mp hk
        exact .inr ⟨(a, b), .inl rfl, z, hz, hy, rfl⟩
      · exact .inl (.inl h)
      · exact .inl (.inr h)
      · obtain ⟨p, hp, r⟩ := h
        exact .inr ⟨p, .inr hp, r⟩
    · rintro ((h | h) | ⟨p, rfl | hp, z, hz, hy, e⟩)
      · exact .inr (.inl h)
      · exact .inr (.inr (.inl h))
      · left
        exact List.mem_map.mpr ⟨(inv a b z.1, z.2), mem_amidK.mpr ⟨z, hz, hy, rfl⟩, e.symm⟩
      · exact .inr (.inr (.inr ⟨p, hp, z, hz, hy, e⟩))
theorem behL_ys {o one : List Kn} (ho : Inc o) (h2 : 2 ≤ o.length) (hone : Inc one) (g2 : 2 ≤ one.length) : ∀ (l : List Kn) (a : Kn), (∀ p ∈ pairs (a :: l), p ∈ pairs one) → ∀ k ∈ behL o (a :: l), k.2 = valK o (valK one k.1)
  | [], a, _, k, hk => by simp [behL] at hk
  | b :: l, a, hp, k, hk => by
    have hab : (a, b) ∈ pairs one := hp _ (by rw [pairs_cons]; exact List.mem_cons_self)
    have hlt := pairs_lt hone hab
    rw [behL_cons] at hk
    rcases List.mem_append.mp hk with hk | hk
    · obtain ⟨z, hz, hy, rfl⟩ := mem_amidK.mp hk
      obtain ⟨i1, i2, i3, _⟩ := inv_ok hlt hy
      show z.2 = valK o (valK one (inv a b z.1))
      rw [val_piece hone hab (Rat.le_of_lt i1) (Rat.le_of_lt i2)]
      show z.2 = valK o (ln a b (inv a b z.1))
      rw [i3, val_mem ho h2 hz]
    · rcases List.mem_cons.mp hk with rfl | hk
      · show valK o b.2 = valK o (valK one b.1)
        rw [val_mem hone g2 (pairs_mem hab).2]
      · exact behL_ys ho h2 hone g2 l b (fun p hp' => hp p (by rw [pairs_cons]; exact List.mem_cons_of_mem _ hp')) k hk
theorem isBeh_behK {L U : Rat} {one o : List Kn} (h1 : Good L U one) (h2 : Good L U o) : IsBeh one o (behK one o) := by
  match one, h1 with
  | [], h1 => exact absurd rfl h1.ne
  | a :: l, h1 =>
    obtain ⟨i1, i2⟩ := behL_inc h2.inc l a h1.inc
    refine ⟨List.pairwise_cons.mpr ⟨fun k hk => i2 k hk, i1⟩, fun x => ?_, ?_⟩
    · have := mem_behL (x := x) (o := o) l a
      show x ∈ ((a.1, valK o a.2) :: behL o (a :: l)).map (·.1) ↔ _
      rw [List.map_cons, List.mem_cons, this]
      unfold Bends
      rw [List.map_cons, List.mem_cons]
      constructor
      · rintro (h | h | h)
        · exact .inl (.inl h)
        · exact .inl (.inr h)
        · exact .inr h
      · rintro ((h | h) | h)
        · exact .inl h
        · exact .inr (.inl h)
        · exact .inr (.inr h)
    · intro k hk
      rcases List.mem_cons.mp hk with rfl | hk
      · show valK o a.2 = valK o (valK (a :: l) a.1)
        rw [val_mem h1.inc h1.len List.mem_cons_self]
      · exact behL_ys h2.inc h2.len h1.inc h1.len l a (fun p hp => hp) k hk
theorem amidK_len {a b : Kn} {o : List Kn} : (amidK a b o).length ≤ o.length := by
  have : (amidK a b o).length = (amidF a b o).length := by
    unfold amidK
    split
    · exact List.length_reverse
    · rfl
  rw [this]
  unfold amidF
  rw [List.length_map]
  exact List.length_filter_le _ _
theorem behL_len {o : List Kn} : ∀ (l : List Kn) (a : Kn), (behL o (a :: l)).length ≤ l.length * (o.length + 1)
  | [], a => by simp [behL]
  | b :: l, a => by
    rw [behL_cons]
    have := behL_len (o := o) l b
    have := amidK_len (a := a) (b := b) (o := o)
    simp only [List.length_append, List.length_cons, Nat.add_mul, Nat.one_mul]
    omega
theorem behK_len {one o : List Kn} : (behK one o).length ≤ one.length * (o.length + 1) := by
  match one with
  | [] => simp [behK]
  | a :: l =>
    have := behL_len (o := o) l a
    show ((a.1, valK o a.2) :: behL o (a :: l)).length ≤ _
    simp only [List.length_cons, Nat.add_mul, Nat.one_mul]
    omega
/-! sizes -/
def DF (be V : Nat) (q : Rat) : Prop := ∃ (u : Int) (v : Nat), 0 < v ∧ v ≤ V ∧ q * ((be : Rat) * (v : Rat)) = (u : Rat)
def LF (be N : Nat) (a b : Kn) : Prop := ∃ (P : Int) (D : Nat) (c : Int), 0 < D ∧ D ≤ N ∧ P.natAbs ≤ N ∧ (D : Rat) * be * a.2 = (P : Rat) * be * a.1 + c ∧ (D : Rat) * be * b.2 = (P : Rat) * be * b.1 + c
structure PF (be N : Nat) (ks : List Kn) : Prop where
  kn : ∀ k ∈ ks, DF be N k.1 ∧ DF be N k.2
  pc : ∀ p ∈ pairs ks, LF be N p.1 p.2
structure PF1 (be N : Nat) (ks : List Kn) : Prop where
  kn : ∀ k ∈ ks, DF be 1 k.1 ∧ DF be 1 k.2
  pc : ∀ p ∈ pairs ks, LF be N p.1 p.2
theorem DF.mono {be V W : Nat} {q : Rat} (h : DF be V q) (hv : V ≤ W) : DF be W q := by
  obtain ⟨u, v, h1, h2, h3⟩ := h
  exact ⟨u, v, h1, by omega, h3⟩
theorem LF.line {be N : Nat} {a b : Kn} {P c : Int} {D : Nat} {t : Rat} (h : a.1 < b.1) (hD : 0 < D) (hb : 0 < be) (ha : (D : Rat) * be * a.2 = (P : Rat) * be * a.1 + c) (hb' : (D : Rat) * be * b.2 = (P : Rat) * be * b.1 + c) :
    (D : Rat) * be * ln a b t = (P : Rat) * be * t + c := by
  have e := slp_mul h
  have e1 : b.1 - a.1 ≠ 0 := by grind
  have k : (D : Rat) * be * slp a b = (P : Rat) * be := by
    have : ((D : Rat) * be * slp a b - (P : Rat) * be) * (b.1 - a.1) = 0 := by grind
    rcases Rat.mul_eq_zero.mp this with q | q
    · grind
    · exact absurd q e1
  unfold ln
  grind
theorem nat_ne {n : Nat} (h : 0 < n) : (n : Rat) ≠ 0 := by
  have : n ≠ 0 := by omega
  exact_mod_cast this
theorem DF.val {be N V : Nat} {q : Kn × Kn} {y : Rat} (hb : 0 < be) (hq : q.1.1 < q.2.1) (h : LF be N q.1 q.2) (hy : DF be V y) : DF be (V * N) (ln q.1 q.2 y) := by
  obtain ⟨P, D, c, d0, dN, pN, e1, e2⟩ := h
  obtain ⟨u, v, v0, vV, ev⟩ := hy
  have := LF.line (N := N) (t := y) hq d0 hb e1 e2
  refine ⟨P * u + c * v, v * D, Nat.mul_pos v0 d0, Nat.mul_le_mul vV dN, ?_⟩
  simp only [Rat.intCast_add, Rat.intCast_mul, Rat.natCast_mul, Rat.intCast_natCast]
  grind
section
variable {L U : Rat} {one o ks : List Kn} {be N M : Nat}
theorem IsBeh.df1 (h1 : Good L U one) (p1 : PF be N one) (p2 : PF1 be M o) (hb : 0 < be) (hN : 1 ≤ N) {x : Rat} (hx : Bends one o x) : DF be N x ∧ DF be N (valK one x) := by
  rcases hx with hx | ⟨p, hp, k, hk, hy, rfl⟩
  · obtain ⟨k, hk, rfl⟩ := List.mem_map.mp hx
    rw [val_mem h1.inc h1.len hk]
    exact p1.kn k hk
  · have plt := pairs_lt h1.inc hp
    obtain ⟨i1, i2, i3, i4⟩ := inv_ok plt hy
    have ev : valK one (inv p.1 p.2 k.1) = k.1 := by
      rw [val_piece h1.inc hp (Rat.le_of_lt i1) (Rat.le_of_lt i2), i3]
    show DF be N (inv p.1 p.2 k.1) ∧ DF be N (valK one (inv p.1 p.2 k.1))
    rw [ev]
    refine ⟨?_, (p2.kn k hk).1.mono hN⟩
    obtain ⟨P, D, c, d0, dN, pN, e1, e2⟩ := p1.pc p hp
    have e3 := LF.line (N := N) (t := inv p.1 p.2 k.1) plt d0 hb e1 e2
    rw [i3] at e3
    obtain ⟨z, v, v0, v1, ez⟩ := (p2.kn k hk).1
    have hv : v = 1 := by omega
    subst hv
    have P0 : P ≠ 0 := by
      intro hP
      subst hP
      have d0' := nat_ne d0
      have b0' := nat_ne hb
      have : (D : Rat) * be * (p.1.2 - p.2.2) = 0 := by grind
      have : p.1.2 = p.2.2 := by
        rcases Rat.mul_eq_zero.mp this with q | q
        · rcases Rat.mul_eq_zero.mp q with q | q
          · exact absurd q d0'
          · exact absurd q b0'
        · grind
      grind
    rcases Int.lt_or_gt_of_ne P0 with c' | c'
    · refine ⟨-(D * z - c), P.natAbs, by omega, pN, ?_⟩
      have : ((P.natAbs : Nat) : Rat) = - (P : Rat) := by
        have : ((P.natAbs : Nat) : Int) = - P := by omega
        rw [← Rat.intCast_natCast, this, Rat.intCast_neg]
      rw [this]
      simp only [Rat.intCast_neg, Rat.intCast_sub, Rat.intCast_mul, Rat.intCast_natCast]
      grind
    · refine ⟨D * z - c, P.natAbs, by omega, pN, ?_⟩
      have : ((P.natAbs : Nat) : Rat) = (P : Rat) := by
        have : ((P.natAbs : Nat) : Int) = P := by omega
        rw [← Rat.intCast_natCast, this]
      rw [this]
      simp only [Rat.intCast_sub, Rat.intCast_mul, Rat.intCast_natCast]
      grind
theorem IsBeh.pf (h : IsBeh one o ks) (h1 : Good L U one) (h2 : Good L U o) (p1 : PF be N one) (p2 : PF1 be M o) (hb : 0 < be) (hN : 1 ≤ N) (hM : 1 ≤ M) : PF be (N * M) ks := by
  have g := h.good h1 h2
  have le : N ≤ N * M := Nat.le_mul_of_pos_right N hM
  have kn : ∀ k ∈ ks, DF be (N * M) k.1 ∧ DF be (N * M) k.2 := by
    intro k hk
    obtain ⟨a1, a2⟩ := IsBeh.df1 h1 p1 p2 hb hN (h.bend hk)
    refine ⟨a1.mono le, ?_⟩
    rw [h.ys k hk]
    have r := h1.val (g.le hk).1 (g.le hk).2
    obtain ⟨q, hq, _, _, e⟩ := h2.piece r.1 r.2
    rw [e]
    exact DF.val hb (pairs_lt h2.inc hq) (p2.pc q hq) a2
  refine ⟨kn, ?_⟩
  intro w hw
  have hlt := pairs_lt g.inc hw
  obtain ⟨p, hp, q1, q2, hc⟩ := h.pair h1 h2 hw
  have plt := pairs_lt h1.inc hp
  have y1 := h.ys _ (pairs_mem hw).1
  have y2 := h.ys _ (pairs_mem hw).2
  have v1 := val_piece h1.inc hp q1 (show w.1.1 ≤ p.2.1 by grind)
  have v2 := val_piece h1.inc hp (show p.1.1 ≤ w.2.1 by grind) q2
  rw [v1] at y1
  rw [v2] at y2
  rcases hc with c | ⟨c, q, hq, hr⟩
  · have k : ∀ s, ln p.1 p.2 s = p.1.2 := by
      intro s
      unfold ln
      rw [c]
      grind
    rw [k] at y1 y2
    obtain ⟨u, v, v0, vN, ev⟩ := (kn _ (pairs_mem hw).1).2
    refine ⟨0, v, u, v0, vN, by simp, ?_, ?_⟩
    · simp only [Rat.intCast_zero]
      grind
    · have : w.2.2 = w.1.2 := by rw [y1, y2]
      rw [this]
      simp only [Rat.intCast_zero]
      grind
  · have z1 := val_piece h2.inc hq (hr _ Rat.le_refl (Rat.le_of_lt hlt)).1 (hr _ Rat.le_refl (Rat.le_of_lt hlt)).2
    have z2 := val_piece h2.inc hq (hr _ (Rat.le_of_lt hlt) Rat.le_refl).1 (hr _ (Rat.le_of_lt hlt) Rat.le_refl).2
    rw [z1] at y1
    rw [z2] at y2
    have qlt := pairs_lt h2.inc hq
    obtain ⟨P, D, c1, d0, dN, pN, e1, e2⟩ := p1.pc p hp
    obtain ⟨P', D', c2, d0', dN', pN', f1, f2⟩ := p2.pc q hq
    refine ⟨P' * P, D * D', P' * c1 + c2 * D, Nat.mul_pos d0 d0', Nat.mul_le_mul dN dN', ?_, ?_, ?_⟩
    · rw [Int.natAbs_mul, Nat.mul_comm N M]
      exact Nat.mul_le_mul pN' pN
    · have a1 := LF.line (N := N) (t := w.1.1) plt d0 hb e1 e2
      have a2 := LF.line (N := M) (t := ln p.1 p.2 w.1.1) qlt d0' hb f1 f2
      rw [← y1] at a2
      simp only [Rat.intCast_add, Rat.intCast_mul, Rat.natCast_mul, Rat.intCast_natCast]
      grind
    · have a1 := LF.line (N := N) (t := w.2.1) plt d0 hb e1 e2
      have a2 := LF.line (N := M) (t := ln p.1 p.2 w.2.1) qlt d0' hb f1 f2
      rw [← y2] at a2
      simp only [Rat.intCast_add, Rat.intCast_mul, Rat.natCast_mul, Rat.intCast_natCast]
      grind
end
theorem LF.skip {be N : Nat} {a k n : Kn} (hb : 0 < be) (h1 : a.1 < k.1) (h2 : k.1 < n.1) (h : slp a k = slp k n) (l : LF be N a k) : LF be N a n := by
  obtain ⟨P, D, c, d0, dN, pN, e1, e2⟩ := l
  refine ⟨P, D, c, d0, dN, pN, e1, ?_⟩
  have := LF.line (N := N) (t := n.1) h1 d0 hb e1 e2
  rw [← (ln_skip h1 h2 h).1, ln_r (by grind)] at this
  exact this
theorem pc_lk {be N : Nat} (hb : 0 < be) : ∀ (l : List Kn) (a : Kn), Inc (a :: l) → (∀ p ∈ pairs (a :: l), LF be N p.1 p.2) → ∀ p ∈ pairs (a :: lk a l), LF be N p.1 p.2
  | [], a, _, h => by rw [lk]; exact h
  | [z], a, _, h => by rw [lk]; exact h
  | k :: n :: l, a, hi, h => by
    rw [lk_cons]
    have hak : LF be N a k := h (a, k) (by rw [pairs_cons]; exact List.mem_cons_self)
    have hrest : ∀ p ∈ pairs (k :: n :: l), LF be N p.1 p.2 := fun p hp => h p (by rw [pairs_cons]; exact List.mem_cons_of_mem _ hp)
    split
    · rename_i c
      refine pc_lk hb (n :: l) a hi.skip fun p hp => ?_
      rw [pairs_cons] at hp
      rcases List.mem_cons.mp hp with rfl | hp
      · exact LF.skip hb hi.lt hi.tail.lt c hak
      · exact hrest p (by rw [pairs_cons]; exact List.mem_cons_of_mem _ hp)
    · intro p hp
      rw [pairs_cons] at hp
      rcases List.mem_cons.mp hp with rfl | hp
      · exact hak
      · exact pc_lk hb (n :: l) k hi.tail hrest p hp
theorem PF.least {be N : Nat} {ks : List Kn} (hb : 0 < be) (hi : Inc ks) (h : PF be N ks) : PF be N (leastK ks) := by
  refine ⟨fun k hk => h.kn k ((leastK_sub ks).subset hk), ?_⟩
  cases ks with
  | nil => exact h.pc
  | cons a l => exact pc_lk hb l a hi h.pc
/-- few enough bits -/
theorem DF.bd {be V n m r k : Nat} {q : Rat} (h : DF be V q) (hb : 0 < be) (hb' : be ≤ 2 ^ n) (hV : V ≤ 2 ^ m) (q1 : -((2 : Rat) ^ r) ≤ q) (q2 : q ≤ (2 : Rat) ^ r) (hk : n + m + r < k) : Bd k q := by
  obtain ⟨u, v, v0, vV, e⟩ := h
  have bv : 0 < be * v := Nat.mul_pos hb v0
  have hle : be * v ≤ 2 ^ (n + m) := by
    rw [Nat.pow_add]
    exact Nat.mul_le_mul hb' (Nat.le_trans vV hV)
  have e' : q = (u : Rat) / (((be * v : Nat) : Int) : Rat) := by
    have n0 : ((be * v : Nat) : Rat) ≠ 0 := nat_ne bv
    rw [Rat.intCast_natCast]
    rw [Rat.natCast_mul] at *
    rw [← e, Rat.mul_div_cancel n0]
  rw [e']
  have hp : (2 : Nat) ^ (n + m) < 2 ^ k := Nat.pow_lt_pow_right (by decide) (by omega)
  refine Bd.of_div (by omega) ?_ (by rw [Int.natAbs_natCast]; omega)
  -- the numerator
  have hpos : (0 : Rat) ≤ (be : Rat) * (v : Rat) := by
    have : (0 : Rat) ≤ ((be * v : Nat) : Rat) := Rat.natCast_nonneg
    rwa [Rat.natCast_mul] at this
  have u1 : (u : Rat) ≤ (2 : Rat) ^ r * ((be : Rat) * (v : Rat)) := by
    rw [← e]
    exact Rat.mul_le_mul_of_nonneg_right q2 hpos
  have u2 : -((2 : Rat) ^ r * ((be : Rat) * (v : Rat))) ≤ (u : Rat) := by
    rw [← e, ← Rat.neg_mul]
    exact Rat.mul_le_mul_of_nonneg_right q1 hpos
  have c1 : (2 : Rat) ^ r * ((be : Rat) * (v : Rat)) = ((2 ^ r * (be * v) : Nat) : Rat) := by
    rw [Rat.natCast_mul, Rat.natCast_mul, Rat.natCast_pow]
    rfl
  rw [c1] at u1 u2
  have u1' : u ≤ ((2 ^ r * (be * v) : Nat) : Int) := by
    rw [← Rat.intCast_natCast] at u1
    exact_mod_cast u1
  have u2' : -((2 ^ r * (be * v) : Nat) : Int) ≤ u := by
    rw [← Rat.intCast_natCast] at u2
    exact_mod_cast u2
  have b : 2 ^ r * (be * v) ≤ 2 ^ (r + (n + m)) := by
    rw [Nat.pow_add]
    exact Nat.mul_le_mul_left _ hle
  have b' : (2 : Nat) ^ (r + (n + m)) < 2 ^ k := Nat.pow_lt_pow_right (by decide) (by omega)
  omega

/-! ### readings of fractions and knots, for simp (the names x_..) -/
section
variable {m : Mu} {R : DK} {q : Rat} {k : Kn} {ks : List Kn} {i : Int}
theorem x_fr0 : gIx (fr q) (.int 0) m R = R (.int q.num) m := by unfold fr; rw [gIx_tup, atK_0]
theorem x_fr1 : gIx (fr q) (.int 1) m R = R (.int (q.den : Int)) m := by unfold fr; rw [gIx_tup, atK_1]
theorem x_kn0 : gIx (knD k) (.int 0) m R = R (fr k.1) m := by unfold knD; rw [gIx_tup, atK_0]
theorem x_kn1 : gIx (knD k) (.int 1) m R = R (fr k.2) m := by unfold knD; rw [gIx_tup, atK_1]
theorem x_map : gIx (mapD ks) (.int i) m R = atK (ks.map knD) i fun d => R d m := by unfold mapD; rw [gIx_tup]
theorem x_at0 {α : Type} {f : α → D} {a : α} {l : List α} {k : D → Prop} : atK ((a :: l).map f) 0 k = k (f a) := by rw [List.map_cons, atK_0]
theorem x_at1 {α : Type} {f : α → D} {a b : α} {l : List α} {k : D → Prop} : atK ((a :: b :: l).map f) 1 k = k (f b) := by rw [List.map_cons, List.map_cons, atK_1]
theorem x_len : gLen [mapD ks] m R = R (.int ks.length) m := by unfold mapD; rw [gLen_tup, List.length_map]
theorem x_row : rowIt m (mapD ks) = some ⟨ks.map knD, fun _ => True⟩ := by unfold mapD; rw [rowIt_tup]
theorem x_cut {lo hi : Option Int} : gCut lo hi (mapD ks) m R = R (.tup (cutD (ks.map knD) lo hi)) m := by unfold mapD; rw [gCut_tup]
theorem x_tup2 {n : Nat} {gs : DTGs} {r : DSt} {R : DSt → Mu → Prop} : gTup' n gs (knD k) r m R = (2 = n ∧ gs [fr k.1, fr k.2] r m R) := by unfold knD; rw [gTup_]; rfl
theorem x_tupfr {n : Nat} {gs : DTGs} {r : DSt} {R : DSt → Mu → Prop} : gTup' n gs (fr q) r m R = (2 = n ∧ gs [.int q.num, .int (q.den : Int)] r m R) := by unfold fr; rw [gTup_]; rfl
theorem x_isiT : gIsi "tuple" (mapD ks) m R = R (.bl true) m := by unfold mapD; rw [isi_tuple_tup]
theorem x_isiK : gIsi "tuple" (knD k) m R = R (.bl true) m := by unfold knD; rw [isi_tuple_tup]
theorem x_isiF : gIsi "tuple" (fr q) m R = R (.bl true) m := by unfold fr; rw [isi_tuple_tup]
theorem x_notN {neg : Bool} : gIsN neg (fr q) m R = R (.bl neg) m := by unfold fr; rw [gIsN_tup]
theorem x_getT {a : Addr} : gGetT (.ref a) (fr q) m R = dtK (m a) fun kvs => optK (valD kvs [.inl q.num, .inl (q.den : Int)]) fun d => R d m := by unfold fr; rw [gGetT_, keysD_two, ]; rfl
theorem x_putT {a : Addr} {d : D} {R : Mu → Prop} : gPutT (.ref a) (fr q) d m R = dtK (m a) fun kvs => kvs.length < sizeLine ∧ R (mput m a (.dT (putD kvs [.inl q.num, .inl (q.den : Int)] d))) := by unfold fr; rw [gPutT_, keysD_two]; rfl
theorem x_notNM {neg : Bool} : gIsN neg (mapD ks) m R = R (.bl neg) m := by unfold mapD; rw [gIsN_tup]
end
/-- while, by a measure -/
theorem while_ind {tt : DTT} {tb : DTS} {E : DEnds} (I : Nat → DSt → Mu → Prop)
    (h : ∀ n (nx : DSt → Mu → Prop), (∀ k r m, k < n → I k r m → nx r m) → ∀ r m, I n r m → tt r m fun b m1 => if b = true then tb { E with nx := nx, ct := nx, bk := E.nx } r m1 else E.nx r m1) (n : Nat) (r : DSt) (m : Mu) (hI : I n r m) : sWhile tt tb E r m := by
  have key : ∀ N n r m, n < N → I n r m → whileN tt tb N E r m := by
    intro N
    induction N with
    | zero => intro n r m hn; omega
    | succ N ih =>
      intro n r m hn hI
      unfold whileN
      exact h n (whileN tt tb N E) (fun k r m hk hI => ih k r m (by omega) hI) r m hI
  exact ⟨n + 1, key (n + 1) n r m (by omega) hI⟩
/-! ### sides -/
def sgQ (p q : Rat) : Int := if q < p then 1 else if p < q then -1 else 0
theorem sg_neg {p q : Rat} : sgQ p q < 0 ↔ p < q := by
  unfold sgQ
  by_cases c : q < p
  · rw [if_pos c]
    constructor
    · intro h; omega
    · intro h; grind
  · rw [if_neg c]
    by_cases d : p < q
    · rw [if_pos d]; exact ⟨fun _ => d, fun _ => by decide⟩
    · rw [if_neg d]; exact ⟨fun h => by omega, fun h => absurd h d⟩
theorem sg_pos {p q : Rat} : 0 < sgQ p q ↔ q < p := by
  unfold sgQ
  by_cases c : q < p
  · rw [if_pos c]
    exact ⟨fun _ => c, fun _ => by decide⟩
  · rw [if_neg c]
    by_cases d : p < q
    · rw [if_pos d]; exact ⟨fun h => by omega, fun h => absurd h c⟩
    · rw [if_neg d]; exact ⟨fun h => by omega, fun h => absurd h c⟩
theorem sg_zero {p q : Rat} : sgQ p q = 0 ↔ p = q := by
  unfold sgQ
  by_cases c : q < p
  · rw [if_pos c]
    exact ⟨fun h => by omega, fun h => by grind⟩
  · rw [if_neg c]
    by_cases d : p < q
    · rw [if_pos d]; exact ⟨fun h => by omega, fun h => by grind⟩
    · rw [if_neg d]; exact ⟨fun h => by grind, fun h => rfl⟩
theorem sg_cases (p q : Rat) : (sgQ p q = 1 ∧ q < p) ∨ (sgQ p q = -1 ∧ p < q) ∨ (sgQ p q = 0 ∧ p = q) := by
  unfold sgQ
  by_cases c : q < p
  · rw [if_pos c]; exact .inl ⟨rfl, c⟩
  · rw [if_neg c]
    by_cases d : p < q
    · rw [if_pos d]; exact .inr (.inl ⟨rfl, d⟩)
    · rw [if_neg d]; exact .inr (.inr ⟨rfl, by grind⟩)
def spSide : DSp := fun ds m R _ => ∃ p q : Rat, ds = [fr p, fr q] ∧ Bd 4000 p ∧ Bd 4000 q ∧ R (.int (sgQ p q)) m
theorem len_spSide : ∀ ds m R E, spSide ds m R E → ds.length = 2 := by
  rintro ds m R E ⟨a, b, rfl, _⟩; rfl
theorem sg_num (p q : Rat) : sgQ p q = (if 0 < p.num * q.den - q.num * p.den then 1 else 0) - (if p.num * q.den - q.num * p.den < 0 then 1 else 0) := by
  have h1 := Rat.lt_iff p q
  have h2 := Rat.lt_iff q p
  rcases sg_cases p q with ⟨e, c⟩ | ⟨e, c⟩ | ⟨e, c⟩
  · have := h2.mp c
    rw [e, if_pos (by omega), if_neg (by omega)]
    rfl
  · have := h1.mp c
    rw [e, if_neg (by omega), if_pos (by omega)]
    rfl
  · subst c
    rw [e, if_neg (by omega), if_neg (by omega)]
    rfl
/-- a list that was made and is forgotten -/
theorem fin_two {R : DK} {d : D} {m : Mu} {a b : Addr} {o u : O} (ha : m a = none) (hR : R d (mput m b u)) : fin R d (mput (mput m a o) b u) := by
  refine ⟨mput m b u, fun c w hc => ?_, hR⟩
  by_cases e : c = b
  · subst e
    rw [mput_same] at hc ⊢
    exact hc
  · rw [mput_ne e] at hc ⊢
    rw [mput_ne (ne_of hc ha)]
    exact hc
/-! ### turned -/
def turnK (ks : List Kn) : Nat → List Kn
  | 0 => [(loK ks, loK ks), (hiK ks, hiK ks)]
  | n + 1 => leastK (behK (turnK ks n) ks)
section
variable {L U : Rat} {ks : List Kn} {be M : Nat}
theorem good_id (h : L < U) : Good L U [(L, L), (U, U)] := by
  refine ⟨by simp, List.pairwise_cons.mpr ⟨fun x hx => by simp at hx; subst hx; exact h, by simp⟩, rfl, by rw [hiK_cons, hiK], fun k hk => ?_⟩
  simp at hk
  rcases hk with rfl | rfl
  · exact ⟨Rat.le_refl, Rat.le_of_lt h⟩
  · exact ⟨Rat.le_of_lt h, Rat.le_refl⟩
theorem turnK_good (h : Good L U ks) : ∀ n, Good L U (turnK ks n)
  | 0 => by
    unfold turnK
    rw [h.lo, h.hi]
    exact good_id h.lt
  | n + 1 => by
    unfold turnK
    exact ((isBeh_behK (turnK_good h n) h).good (turnK_good h n) h).least
theorem turnK_beh (h : Good L U ks) (n : Nat) : IsBeh (turnK ks n) ks (behK (turnK ks n) ks) := isBeh_behK (turnK_good h n) h
theorem turnK_len : ∀ n, (turnK ks n).length ≤ 2 * (ks.length + 1) ^ n
  | 0 => by unfold turnK; simp
  | n + 1 => by
    unfold turnK
    have h1 := leastK_le (behK (turnK ks n) ks)
    have h2 := behK_len (one := turnK ks n) (o := ks)
    have h3 := Nat.mul_le_mul_right (ks.length + 1) (turnK_len n)
    rw [Nat.pow_succ, ← Nat.mul_assoc]
    omega
theorem turnK_pf (h : Good L U ks) (p : PF1 be M ks) (hb : 0 < be) (hM : 1 ≤ M) : ∀ n, PF be (M ^ n) (turnK ks n)
  | 0 => by
    unfold turnK
    obtain ⟨k0, hk0, e0⟩ := loK_mem h.ne
    obtain ⟨k1, hk1, e1⟩ := hiK_mem h.ne
    refine ⟨fun k hk => ?_, fun w hw => ?_⟩
    · simp at hk
      rcases hk with rfl | rfl
      · rw [← e0]
        exact ⟨(p.kn k0 hk0).1, (p.kn k0 hk0).1⟩
      · rw [← e1]
        exact ⟨(p.kn k1 hk1).1, (p.kn k1 hk1).1⟩
    · simp [pairs] at hw
      subst hw
      refine ⟨1, 1, 0, by decide, by simp, by simp, ?_, ?_⟩
      · show ((1 : Nat) : Rat) * be * loK ks = ((1 : Int) : Rat) * be * loK ks + ((0 : Int) : Rat)
        grind
      · show ((1 : Nat) : Rat) * be * hiK ks = ((1 : Int) : Rat) * be * hiK ks + ((0 : Int) : Rat)
        grind
  | n + 1 => by
    unfold turnK
    rw [Nat.pow_succ]
    have b := turnK_beh h n
    have hp : 1 ≤ M ^ n := Nat.pow_pos hM
    exact PF.least hb b.inc (b.pf (turnK_good h n) h (turnK_pf h p hb hM n) p hb hp hM)
/-- so many turns, one by one -/
def iterV (ks : List Kn) : Nat → Rat → Rat
  | 0, t => t
  | n + 1, t => valK ks (iterV ks n t)
theorem iterV_rng (h : Good L U ks) {t : Rat} (t1 : L ≤ t) (t2 : t ≤ U) : ∀ n, L ≤ iterV ks n t ∧ iterV ks n t ≤ U
  | 0 => ⟨t1, t2⟩
  | n + 1 => by
    have := iterV_rng h t1 t2 n
    exact h.val this.1 this.2
theorem turnK_val (h : Good L U ks) {t : Rat} (t1 : L ≤ t) (t2 : t ≤ U) : ∀ n, valK (turnK ks n) t = iterV ks n t
  | 0 => by
    unfold turnK iterV
    have hlt := h.lt
    rw [h.lo, h.hi, valK_2 (by exact hlt), if_neg (by grind)]
    unfold ln
    have : slp (L, L) (U, U) = 1 := by
      unfold slp
      show (U - L) / (U - L) = 1
      rw [Rat.div_def, Rat.mul_inv_cancel _ (by grind)]
    rw [this]
    grind
  | n + 1 => by
    unfold turnK iterV
    have b := turnK_beh h n
    rw [val_least b.inc, b.val (turnK_good h n) h t1 t2, turnK_val h t1 t2 n]
end
/-- a held list against [] -/
theorem enc_neNil {α : Type} [DecidableEq α] {n : Nat} {f : α → D} {g : α → PyData} (h : Enc n f g) {a : Addr} {m : Mu} {xs : List α} {R : DK} (hm : m a = some (.lst (xs.map f))) (hR : R (.bl (!decide (xs = []))) m) (hn : n + 1 ≤ deep := by decide) : gEqN true (.ref a) [] m R := by
  have e : DL.py m deep (.ref a) = some (.list (xs.map g)) := by
    show DL.py m (11 + 1) (.ref a) = _
    unfold py
    simp only [hm]
    rw [pyAll_map (fun x => h.py m 11 x (by have : deep = 12 := rfl; omega)) xs]
  unfold gEqN
  rw [e]
  show R (.bl (xor true (PyData.eqv (.list (xs.map g)) (.list [])))) m
  have e2 : PyData.eqv (.list (xs.map g)) (.list []) = decide (xs = []) := by
    cases xs <;> simp [PyData.eqv, PyData.eqvAll]
  rw [e2, Bool.true_xor]
  exact hR
/-- the map that stays, behind which a map is the map -/
theorem beh_id {L U : Rat} {ks : List Kn} (h : Good L U ks) : behK [(L, L), (U, U)] ks = ks := by
  have hlt := h.lt
  have gi := good_id hlt
  refine (isBeh_behK gi h).uniq ⟨h.inc, fun x => ?_, fun k hk => ?_⟩
  · have s1 : slp (L, L) (U, U) = 1 := by
      unfold slp
      show (U - L) / (U - L) = 1
      rw [Rat.div_def, Rat.mul_inv_cancel _ (by grind)]
    have pr : pairs [((L, L) : Kn), (U, U)] = [((L, L), (U, U))] := by simp [pairs]
    unfold Bends
    rw [pr]
    constructor
    · intro hx
      obtain ⟨k, hk, rfl⟩ := List.mem_map.mp hx
      have r := h.le hk
      by_cases c1 : k.1 = L
      · left
        simp [c1]
      · by_cases c2 : k.1 = U
        · left
          simp [c2]
        · right
          refine ⟨_, List.mem_singleton.mpr rfl, k, hk, .inl ⟨by grind, by grind⟩, ?_⟩
          show k.1 = L + (k.1 - L) / slp (L, L) (U, U)
          rw [s1]
          grind
    · rintro (hx | ⟨p, hp, k, hk, _, e⟩)
      · simp at hx
        rcases hx with rfl | rfl
        · obtain ⟨k, hk, e⟩ := loK_mem h.ne
          exact List.mem_map.mpr ⟨k, hk, by rw [e]; exact h.lo⟩
        · obtain ⟨k, hk, e⟩ := hiK_mem h.ne
          exact List.mem_map.mpr ⟨k, hk, by rw [e]; exact h.hi⟩
      · simp at hp
        subst hp
        refine List.mem_map.mpr ⟨k, hk, ?_⟩
        rw [e]
        show k.1 = L + (k.1 - L) / slp (L, L) (U, U)
        rw [s1]
        grind
  · have r := h.le hk
    have := turnK_val h r.1 r.2 0
    unfold turnK iterV at this
    rw [h.lo, h.hi] at this
    rw [this, val_mem h.inc h.len hk]
theorem turnK_one {L U : Rat} {ks : List Kn} (h : Good L U ks) : turnK ks 1 = leastK ks := by
  show leastK (behK [(loK ks, loK ks), (hiK ks, hiK ks)] ks) = _
  rw [h.lo, h.hi, beh_id h]
theorem Good.head {L U : Rat} {a : Kn} {l : List Kn} (h : Good L U (a :: l)) : a.1 = L := h.lo
theorem Good.last {L U : Rat} {ks : List Kn} (h : Good L U ks) : ∃ z, ks.getLast? = some z ∧ z.1 = U ∧ (ks.map knD).getLast? = some (knD z) := by
  have h0 := h.ne
  refine ⟨ks.getLast h0, List.getLast?_eq_some_getLast h0, ?_, ?_⟩
  · rw [← h.hi, hiK_lastK (List.getLast?_eq_some_getLast h0)]
  · rw [List.getLast?_map, List.getLast?_eq_some_getLast h0]
    rfl
theorem Good.headD {L U : Rat} {ks : List Kn} (h : Good L U ks) : ∃ a, ks.head? = some a ∧ a ∈ ks ∧ a.1 = L ∧ (ks.map knD)[0]? = some (knD a) := by
  match ks, h with
  | a :: l, h => exact ⟨a, rfl, by simp, h.lo, by simp⟩

/-! ### the maps of the first family turned -/
theorem GoodMap.good {ks : List Kn} (h : GoodMap ks) : Good (loK ks) (hiK ks) ks := by
  refine ⟨h.len, h.inc, rfl, rfl, ?_⟩
  obtain ⟨lo, hi, e1, e2, hr⟩ := h.rng
  have h0 : ks ≠ [] := by
    intro e
    have := h.len
    rw [e] at this
    simp at this
  have l : loK ks = lo := by
    match ks, h0 with
    | a :: l, _ =>
      show a.1 = lo
      simpa using e1
  have u : hiK ks = hi := by
    have := hiK_last h0
    rw [e2] at this
    simpa using this.symm
  rw [l, u]
  exact hr
theorem df_div {be : Nat} {z : Int} (hb : 1 ≤ be) : DF be 1 ((z : Rat) / ((be : Int) : Rat)) := by
  refine ⟨z, 1, by decide, by decide, ?_⟩
  have : ((be : Int) : Rat) ≠ 0 := by
    rw [Rat.intCast_natCast]
    exact nat_ne hb
  rw [Rat.intCast_natCast] at *
  have e1 : ((1 : Nat) : Rat) = 1 := rfl
  rw [e1, Rat.mul_one, Rat.div_mul_cancel this]
theorem lf_of {be : Nat} {z1 w1 z2 w2 : Int} {a b : Kn} {M : Nat} (hb : 1 ≤ be) (e1 : a.1 = (z1 : Rat) / ((be : Int) : Rat)) (e2 : a.2 = (w1 : Rat) / ((be : Int) : Rat)) (e3 : b.1 = (z2 : Rat) / ((be : Int) : Rat)) (e4 : b.2 = (w2 : Rat) / ((be : Int) : Rat)) (hlt : a.1 < b.1)
    (hz : z2 - z1 ≤ M) (hw : (w2 - w1).natAbs ≤ M) : LF be M a b := by
  have h0 : (be : Rat) ≠ 0 := nat_ne hb
  rw [Rat.intCast_natCast] at e1 e2 e3 e4
  have hz0 : z1 < z2 := by
    rcases Int.lt_or_le z1 z2 with h | h
    · exact h
    · have := div_le (b := (be : Int)) (by omega) h
      rw [Rat.intCast_natCast] at this
      grind
  have f1 : (be : Rat) * a.1 = z1 := by rw [e1, Rat.mul_comm, Rat.div_mul_cancel h0]
  have f2 : (be : Rat) * a.2 = w1 := by rw [e2, Rat.mul_comm, Rat.div_mul_cancel h0]
  have f3 : (be : Rat) * b.1 = z2 := by rw [e3, Rat.mul_comm, Rat.div_mul_cancel h0]
  have f4 : (be : Rat) * b.2 = w2 := by rw [e4, Rat.mul_comm, Rat.div_mul_cancel h0]
  have hD : (((z2 - z1).toNat : Nat) : Rat) = (z2 : Rat) - (z1 : Rat) := by
    rw [← Rat.intCast_natCast, Int.toNat_of_nonneg (by omega), Rat.intCast_sub]
  refine ⟨w2 - w1, (z2 - z1).toNat, w1 * (z2 - z1) - (w2 - w1) * z1, by omega, by omega, hw, ?_, ?_⟩
  · rw [hD]
    simp only [Rat.intCast_sub, Rat.intCast_mul]
    grind
  · rw [hD]
    simp only [Rat.intCast_sub, Rat.intCast_mul]
    grind
theorem GoodMap.pf1 {ks : List Kn} (h : GoodMap ks) : ∃ be : Nat, 0 < be ∧ be ≤ 2 ^ 14 ∧ PF1 be (2 ^ 22) ks := by
  obtain ⟨be, b1, b2, hk⟩ := h.cd
  refine ⟨be, b1, by omega, ⟨fun k hm => ?_, fun p hp => ?_⟩⟩
  · obtain ⟨z, w, _, _, e1, e2⟩ := hk k hm
    rw [e1, e2]
    exact ⟨df_div b1, df_div b1⟩
  · obtain ⟨z1, w1, hz1, hw1, e1, e2⟩ := hk _ (pairs_mem hp).1
    obtain ⟨z2, w2, hz2, hw2, e3, e4⟩ := hk _ (pairs_mem hp).2
    exact lf_of b1 e1 e2 e3 e4 (pairs_lt h.inc hp) (by omega) (by omega)
theorem GoodMap.ends {ks : List Kn} (h : GoodMap ks) : -((2 : Rat) ^ 21) ≤ loK ks ∧ hiK ks ≤ (2 : Rat) ^ 21 := by
  obtain ⟨be, b1, b2, hk⟩ := h.cd
  have g := h.good
  obtain ⟨k0, hk0, e0⟩ := loK_mem g.ne
  obtain ⟨k1, hk1, e1⟩ := hiK_mem g.ne
  have hb : (1 : Rat) ≤ ((be : Int) : Rat) := by
    have : (1 : Int) ≤ (be : Int) := by omega
    exact_mod_cast this
  constructor
  · obtain ⟨z, w, hz, _, e, _⟩ := hk k0 hk0
    rw [← e0, e]
    have h1 : ((-2000000 : Int) : Rat) ≤ (z : Rat) := Rat.intCast_le_intCast.mpr hz.1
    have c : (-((2 : Rat) ^ 21)) ≤ ((-2000000 : Int) : Rat) := by decide +kernel
    have n0 : ((be : Int) : Rat) ≠ 0 := by grind
    have d : (z : Rat) / ((be : Int) : Rat) * ((be : Int) : Rat) = z := Rat.div_mul_cancel n0
    rcases rlt ((z : Rat) / ((be : Int) : Rat)) (-((2 : Rat) ^ 21)) with q | q
    · have := Rat.mul_le_mul_of_nonneg_left hb (show (0 : Rat) ≤ -((z : Rat) / ((be : Int) : Rat)) by
        have : (0 : Rat) ≤ (2 : Rat) ^ 21 := by decide +kernel
        grind)
      grind
    · exact q
  · obtain ⟨z, w, hz, _, e, _⟩ := hk k1 hk1
    rw [← e1, e]
    have h1 : (z : Rat) ≤ ((2000000 : Int) : Rat) := Rat.intCast_le_intCast.mpr hz.2
    have c : ((2000000 : Int) : Rat) ≤ (2 : Rat) ^ 21 := by decide +kernel
    have n0 : ((be : Int) : Rat) ≠ 0 := by grind
    have d : (z : Rat) / ((be : Int) : Rat) * ((be : Int) : Rat) = z := Rat.div_mul_cancel n0
    rcases rlt ((2 : Rat) ^ 21) ((z : Rat) / ((be : Int) : Rat)) with q | q
    · have := Rat.mul_le_mul_of_nonneg_left hb (show (0 : Rat) ≤ ((z : Rat) / ((be : Int) : Rat)) by
        have : (0 : Rat) ≤ (2 : Rat) ^ 21 := by decide +kernel
        grind)
      grind
    · exact q
theorem pf_bdk {be N n : Nat} {L U : Rat} {ks : List Kn} (g : Good L U ks) (p : PF be N ks) (hb : 0 < be) (hb' : be ≤ 2 ^ 14) (hN : N ≤ 2 ^ n) (l : -((2 : Rat) ^ 21) ≤ L) (u : U ≤ (2 : Rat) ^ 21) (k : Nat) (hk : 14 + n + 21 < k) : BdK k ks := by
  intro x hx
  have h1 := g.le hx
  have h2 := g.rng x hx
  have h3 := p.kn x hx
  exact ⟨h3.1.bd hb hb' hN (by grind) (by grind) hk, h3.2.bd hb hb' hN (by grind) (by grind) hk⟩
theorem GoodMap.turn_bd {ks : List Kn} (h : GoodMap ks) {n : Nat} (hn : n ≤ 7) : BdK 200 (turnK ks n) := by
  obtain ⟨be, b1, b2, p⟩ := h.pf1
  have e := h.ends
  have pf := turnK_pf h.good p b1 (by decide) n
  have hle : (2 ^ 22) ^ n ≤ 2 ^ 154 := by
    rw [← Nat.pow_mul]
    exact Nat.pow_le_pow_right (by decide) (by omega)
  exact pf_bdk (n := 154) (turnK_good h.good n) pf b1 b2 hle e.1 e.2 200 (by decide)
theorem GoodMap.beh_bd {ks : List Kn} (h : GoodMap ks) {n : Nat} (hn : n ≤ 6) : BdK 200 (behK (turnK ks n) ks) := by
  obtain ⟨be, b1, b2, p⟩ := h.pf1
  have e := h.ends
  have b := turnK_beh h.good n
  have pf := turnK_pf h.good p b1 (by decide) n
  have pf' := b.pf (turnK_good h.good n) h.good pf p b1 (Nat.pow_pos (by decide)) (by decide)
  have hle : (2 ^ 22) ^ n * 2 ^ 22 ≤ 2 ^ 154 := by
    rw [← Nat.pow_succ, ← Nat.pow_mul]
    exact Nat.pow_le_pow_right (by decide) (by omega)
  exact pf_bdk (n := 154) (b.good (turnK_good h.good n) h.good) pf' b1 b2 hle e.1 e.2 200 (by decide)
structure Tur (ks : List Kn) (n : Nat) : Prop where
  len : 2 * (ks.length + 1) ^ n ≤ 15000000
  len1 : ks.length ≤ 100000
  good : Good (loK ks) (hiK ks) ks
  bd : BdK 400 ks
  bdt : ∀ i, i < n → BdK 400 (turnK ks i) ∧ BdK 900 (behK (turnK ks i) ks)
theorem GoodMap.tur {ks : List Kn} (h : GoodMap ks) (h8 : ks.length ≤ 8) {n : Nat} (hn : n ≤ 7) : Tur ks n := by
  refine ⟨?_, by omega, h.good, h.bd.mono (by decide), fun i hi => ⟨(h.turn_bd (by omega)).mono (by decide), (h.beh_bd (by omega)).mono (by decide)⟩⟩
  have h1 : (ks.length + 1) ^ n ≤ 9 ^ n := Nat.pow_le_pow_left (by omega) n
  have h2 : 9 ^ n ≤ 9 ^ 7 := Nat.pow_le_pow_right (by decide) hn
  have h3 : (9 : Nat) ^ 7 = 4782969 := by decide
  omega
/-! laps -/
def risesK (ks : List Kn) : List Int := (pairs ks).map fun p => sgQ p.2.2 p.1.2
def lapsF : Int → List Int → Int
  | _, [] => 0
  | w, s :: l => (if s * w < 0 then 1 else 0) + lapsF (if s = 0 then w else s) l
theorem sg_three (p q : Rat) : sgQ p q = 1 ∨ sgQ p q = -1 ∨ sgQ p q = 0 := by
  rcases sg_cases p q with h | h | h
  · exact .inl h.1
  · exact .inr (.inl h.1)
  · exact .inr (.inr h.1)

/-! ### the family of seeds and cells: draws, maps, stretches -/
theorem draw_ext {a : Addr} {m : Mu} {most : Int} {R : DK} {E : DXK} (h : isSeed (m a)) (h0 : 0 < most) (h1 : most < 2 ^ 64) (hR : ∀ (v : Int) (m' : Mu), isSeed (m' a) → Ext a m m' → 0 ≤ v → v < most → R (.int v) m') : spDraw [.ref a, .int most] m R E :=
  ⟨h, h0, h1, fun v o ho v0 v1 => hR v _ (by rw [mput_same]; exact ho) Ext.put v0 v1⟩
theorem seed_ne {m : Mu} {a x : Addr} (h : isSeed (m a)) (hx : m x = none) : x ≠ a := by
  intro e
  subst e
  rw [hx] at h
  exact h
theorem seed_put {m : Mu} {a x : Addr} {o : O} (h : isSeed (m a)) (hx : x ≠ a) : isSeed (mput m x o a) := by
  rw [mput_ne (Ne.symm hx)]
  exact h
theorem Ext.get {a x : Addr} {m m' : Mu} {o : O} (h : Ext a m m') (xa : x ≠ a) (hx : m x = some o) : m' x = some o := h x o xa hx
/-- a map as these laws draw them -/
structure KnC (ks : List Kn) : Prop where
  good : Good (loK ks) (hiK ks) ks
  bd : BdK 40 ks
  cd : ∃ be : Nat, 1 ≤ be ∧ be ≤ 2 ^ 20 ∧ ∀ k ∈ ks, ∃ z w : Int, (-(2 ^ 20) ≤ z ∧ z ≤ 2 ^ 20) ∧ (-(2 ^ 20) ≤ w ∧ w ≤ 2 ^ 20) ∧ k.1 = (z : Rat) / ((be : Int) : Rat) ∧ k.2 = (w : Rat) / ((be : Int) : Rat)
theorem scale_div {x y c : Int} (hy : y ≠ 0) (hc : c ≠ 0) : (x : Rat) / (y : Rat) = ((c * x : Int) : Rat) / ((c * y : Int) : Rat) := by
  have h1 : (y : Rat) ≠ 0 := by exact_mod_cast hy
  have h2 : (c : Rat) ≠ 0 := by exact_mod_cast hc
  rw [Rat.intCast_mul, Rat.intCast_mul]
  grind
theorem knC_mk {xs : List Int} {ks : List Kn} {be : Int} {p0 pL : Int} (hb : 1 ≤ be ∧ be ≤ 2000) (h2 : 2 ≤ xs.length) (hup : xs.Pairwise fun a b => a < b) (hf : ∀ z ∈ xs, -2000 ≤ z ∧ z ≤ 2000) (e0 : xs.head? = some p0) (eL : xs.getLast? = some pL)
    (e1 : ks.map (·.1) = xs.map fun (z : Int) => (z : Rat) / (be : Rat)) (e2 : ∀ k ∈ ks, ∃ w : Int, 420 * p0 ≤ w ∧ w ≤ 420 * pL ∧ k.2 = (w : Rat) / ((420 * be : Int) : Rat)) : KnC ks := by
  have m0 : p0 ∈ xs := List.mem_of_head? e0
  have mL : pL ∈ xs := List.mem_of_getLast? eL
  have f0 := hf p0 m0
  have fL := hf pL mL
  have hl : ks.length = xs.length := by
    have := congrArg List.length e1
    simpa using this
  have hx : ∀ k ∈ ks, ∃ z ∈ xs, k.1 = (z : Rat) / (be : Rat) := by
    intro k hk
    have h1 : k.1 ∈ ks.map (·.1) := List.mem_map_of_mem hk
    rw [e1] at h1
    obtain ⟨z, hz, ez⟩ := List.mem_map.mp h1
    exact ⟨z, hz, ez.symm⟩
  have hinc : Inc ks := by
    have : (ks.map (·.1)).Pairwise (fun p q => p < q) := by
      rw [e1, List.pairwise_map]
      exact hup.imp fun h => div_lt (by omega) h
    rw [List.pairwise_map] at this
    exact this
  have hne : ks ≠ [] := by
    intro e
    rw [e] at hl
    simp at hl
    omega
  have lo : loK ks = (p0 : Rat) / (be : Rat) := by
    match ks, xs, hne, e0, e1 with
    | k :: l, z :: zs, _, e0, e1 =>
      simp at e0 e1
      show k.1 = _
      rw [e1.1, e0]
  have hi : hiK ks = (pL : Rat) / (be : Rat) := by
    have := hiK_last hne
    rw [e1, List.getLast?_map, eL] at this
    simpa using this.symm
  have cd : ∃ b : Nat, 1 ≤ b ∧ b ≤ 2 ^ 20 ∧ ∀ k ∈ ks, ∃ z w : Int, (-(2 ^ 20) ≤ z ∧ z ≤ 2 ^ 20) ∧ (-(2 ^ 20) ≤ w ∧ w ≤ 2 ^ 20) ∧ k.1 = (z : Rat) / ((b : Int) : Rat) ∧ k.2 = (w : Rat) / ((b : Int) : Rat) := by
    refine ⟨(420 * be).toNat, by omega, by omega, fun k hk => ?_⟩
    obtain ⟨z, hz, ez⟩ := hx k hk
    obtain ⟨w, w0, w1, ew⟩ := e2 k hk
    have fz := hf z hz
    rw [show (((420 * be).toNat : Nat) : Int) = 420 * be by omega]
    refine ⟨420 * z, w, by omega, by omega, ?_, ew⟩
    rw [ez, scale_div (c := 420) (by omega) (by decide)]
  refine ⟨⟨by omega, hinc, rfl, rfl, fun k hk => ?_⟩, fun k hk => ?_, cd⟩
  · obtain ⟨w, w0, w1, ew⟩ := e2 k hk
    rw [lo, hi, ew, scale_div (x := p0) (c := 420) (by omega) (by decide), scale_div (x := pL) (c := 420) (by omega) (by decide)]
    exact ⟨div_le (by omega) w0, div_le (by omega) w1⟩
  · obtain ⟨b, b1, b2, h⟩ := cd
    obtain ⟨z, w, hz, hw, ez, ew⟩ := h k hk
    rw [ez, ew]
    exact ⟨Bd.of_div (by omega) (by omega) (by omega), Bd.of_div (by omega) (by omega) (by omega)⟩
/-! ### the least and the greatest value on a stretch -/
def insideK (ks : List Kn) (a b : Rat) : List Rat := (ks.filter fun k => decide (a < k.1) && decide (k.1 < b)).map (·.2)
def mnmx (s : Kn) (x : Rat) : Kn := (if x < s.1 then x else s.1, if s.2 < x then x else s.2)
def rangeK (ks : List Kn) (a b : Rat) : Kn := (insideK ks a b ++ [valK ks b]).foldl mnmx (valK ks a, valK ks a)
theorem mnmx_bd {n : Nat} : ∀ (l : List Rat) (s : Kn), Bd n s.1 → Bd n s.2 → (∀ x ∈ l, Bd n x) → Bd n (l.foldl mnmx s).1 ∧ Bd n (l.foldl mnmx s).2
  | [], s, h1, h2, _ => ⟨h1, h2⟩
  | x :: l, s, h1, h2, h => by
    rw [List.foldl_cons]
    have hx := h x (by simp)
    refine mnmx_bd l (mnmx s x) ?_ ?_ (fun y hy => h y (List.mem_cons_of_mem _ hy))
    · unfold mnmx
      dsimp only
      split <;> assumption
    · unfold mnmx
      dsimp only
      split <;> assumption
theorem val_bd {ks : List Kn} {p : Rat} {n b : Nat} (hi : Inc ks) (h2 : 2 ≤ ks.length) (hk : BdK n ks) (hp : Bd b p) (p1 : loK ks ≤ p) (p2 : p ≤ hiK ks) : Bd (n + ((2 * n + 1) + (2 * n + 1) + (b + n + 1)) + 1) (valK ks p) := by
  obtain ⟨q, hq, h1, h3⟩ := piece_of hi h2 (u := p) (v := p) p1 Rat.le_refl p2 (fun j hj => by grind)
  rw [val_piece hi hq h1 h3]
  have ba := hk _ (pairs_mem hq).1
  have bb := hk _ (pairs_mem hq).2
  have lt := pairs_lt hi hq
  have s1 : Bd (2 * n + 1) (q.2.2 - q.1.2) := bb.2.sub ba.2
  have s2 : Bd (2 * n + 1) (q.2.1 - q.1.1) := bb.1.sub ba.1
  have s3 : Bd ((2 * n + 1) + (2 * n + 1)) (slp q.1 q.2) := s1.div s2 (by grind)
  have s4 : Bd (b + n + 1) (p - q.1.1) := hp.sub ba.1
  have s5 : Bd ((2 * n + 1) + (2 * n + 1) + (b + n + 1)) (slp q.1 q.2 * (p - q.1.1)) := s3.mul s4
  exact ba.2.add s5
theorem KnC.inc {ks : List Kn} (h : KnC ks) : Inc ks := h.good.inc
theorem KnC.len {ks : List Kn} (h : KnC ks) : 2 ≤ ks.length := h.good.len
def Within (ks : List Kn) (n : Nat) (p : Rat) : Prop := loK ks ≤ p ∧ p ≤ hiK ks ∧ Bd n p
/-- an item of a row of like things, whichever -/
theorem at_map {α : Type} {f : α → D} {xs : List α} {i : Int} {k : D → Prop} (h0 : 0 ≤ i) (h1 : i < xs.length) (h : ∀ x ∈ xs, k (f x)) : atK (xs.map f) i k := by
  have hl : i.toNat < xs.length := by omega
  exact atK_of (n := i.toNat) (x := f xs[i.toNat]) (by omega) (by simp [hl]) (h _ (List.getElem_mem hl))
/-- a point at a part of few figures between two -/
def Part (l u p : Rat) : Prop := ∃ c d : Nat, 1 ≤ d ∧ d ≤ 1000 ∧ c ≤ d ∧ p = l + ((c : Int) : Rat) / ((d : Int) : Rat) * (u - l)
theorem part_q {c d : Nat} (d1 : 1 ≤ d) (hc : c ≤ d) : (0 : Rat) ≤ ((c : Int) : Rat) / ((d : Int) : Rat) ∧ ((c : Int) : Rat) / ((d : Int) : Rat) ≤ 1 := by
  have hd : (0 : Rat) < ((d : Int) : Rat) := by
    have : (0 : Int) < (d : Int) := by omega
    exact_mod_cast this
  constructor
  · have : (0 : Rat) ≤ ((c : Int) : Rat) := by
      have : (0 : Int) ≤ (c : Int) := by omega
      exact_mod_cast this
    rw [Rat.div_def]
    exact Rat.mul_nonneg this (Rat.le_of_lt (Rat.inv_pos.mpr hd))
  · have h1 := div_le (b := (d : Int)) (by omega) (show (c : Int) ≤ (d : Int) by omega)
    have h2 : ((d : Int) : Rat) / ((d : Int) : Rat) = 1 := by
      rw [Rat.div_def, Rat.mul_inv_cancel _ (by grind)]
    rw [h2] at h1
    exact h1
theorem Part.rng {l u p : Rat} (h : Part l u p) (hlu : l ≤ u) : l ≤ p ∧ p ≤ u := by
  obtain ⟨c, d, d1, _, hc, e⟩ := h
  obtain ⟨q0, q1⟩ := part_q d1 hc
  rw [e]
  generalize ((c : Int) : Rat) / ((d : Int) : Rat) = q at q0 q1
  have p1 := Rat.mul_nonneg q0 (show 0 ≤ u - l by grind)
  have p2 := Rat.mul_nonneg (show 0 ≤ 1 - q by grind) (show 0 ≤ u - l by grind)
  constructor <;> grind
theorem Part.bd {l u p : Rat} {n : Nat} (h : Part l u p) (hl : Bd n l) (hu : Bd n u) : Bd (n + (11 + (n + n + 1)) + 1) p := by
  obtain ⟨c, d, d1, d2, hc, e⟩ := h
  rw [e]
  have b1 : Bd 11 (((c : Int) : Rat) / ((d : Int) : Rat)) := Bd.of_div (by omega) (by omega) (by omega)
  have b2 : Bd (n + n + 1) (u - l) := hu.sub hl
  have b3 : Bd (11 + (n + n + 1)) (((c : Int) : Rat) / ((d : Int) : Rat) * (u - l)) := b1.mul b2
  exact hl.add b3

/-! ### rising points, closed under a map -/
def insR (x : Rat) : List Rat → List Rat
  | [] => [x]
  | y :: l => if x < y then x :: y :: l else if x = y then y :: l else y :: insR x l
def riseL (l : List Rat) : List Rat := l.foldl (fun S x => insR x S) []
abbrev Ris (l : List Rat) : Prop := l.Pairwise fun a b => a < b
theorem mem_insR {x z : Rat} : ∀ l : List Rat, z ∈ insR x l ↔ z = x ∨ z ∈ l
  | [] => by simp [insR]
  | y :: l => by
    unfold insR
    split
    · simp
    · split
      · rename_i h
        subst h
        simp
      · simp only [List.mem_cons, mem_insR l]
        constructor
        · rintro (h | h | h)
          · exact .inr (.inl h)
          · exact .inl h
          · exact .inr (.inr h)
        · rintro (h | h | h)
          · exact .inr (.inl h)
          · exact .inl h
          · exact .inr (.inr h)
theorem ris_insR {x : Rat} : ∀ {l : List Rat}, Ris l → Ris (insR x l)
  | [], _ => by simp [insR]
  | y :: l, h => by
    have p := List.pairwise_cons.mp h
    unfold insR
    split
    · rename_i c
      refine List.pairwise_cons.mpr ⟨fun z hz => ?_, h⟩
      rcases List.mem_cons.mp hz with rfl | hz
      · exact c
      · have := p.1 z hz
        grind
    · split
      · exact h
      · refine List.pairwise_cons.mpr ⟨fun z hz => ?_, ris_insR p.2⟩
        rcases (mem_insR l).mp hz with rfl | hz
        · grind
        · exact p.1 z hz
theorem foldl_insR : ∀ (l S : List Rat), Ris S → Ris (l.foldl (fun S x => insR x S) S) ∧ ∀ z, z ∈ l.foldl (fun S x => insR x S) S ↔ z ∈ l ∨ z ∈ S
  | [], S, h => ⟨h, fun z => by simp⟩
  | x :: l, S, h => by
    rw [List.foldl_cons]
    obtain ⟨h1, h2⟩ := foldl_insR l (insR x S) (ris_insR h)
    refine ⟨h1, fun z => ?_⟩
    rw [h2, mem_insR, List.mem_cons]
    constructor
    · rintro (h | h | h)
      · exact .inl (.inr h)
      · exact .inl (.inl h)
      · exact .inr h
    · rintro ((h | h) | h)
      · exact .inr (.inl h)
      · exact .inl h
      · exact .inr (.inr h)
theorem ris_riseL (l : List Rat) : Ris (riseL l) := (foldl_insR l [] .nil).1
theorem mem_riseL {l : List Rat} {z : Rat} : z ∈ riseL l ↔ z ∈ l := by
  have := (foldl_insR l [] .nil).2 z
  unfold riseL
  rw [this]
  simp
theorem riseL_uniq {l S : List Rat} (h : Ris S) (hm : ∀ z, z ∈ S ↔ z ∈ l) : S = riseL l := sorted_ext h (ris_riseL l) fun z => by rw [hm, mem_riseL]
theorem riseL_of {l : List Rat} (h : Ris l) : riseL l = l := (riseL_uniq h fun _ => Iff.rfl).symm
theorem insR_len : ∀ (x : Rat) (l : List Rat), (insR x l).length ≤ l.length + 1
  | x, [] => by simp [insR]
  | x, y :: l => by
    have := insR_len x l
    unfold insR
    split
    · simp
    · split
      · simp
      · simp; omega
theorem foldl_len : ∀ (l S : List Rat), (l.foldl (fun S x => insR x S) S).length ≤ l.length + S.length
  | [], S => by simp
  | x :: l, S => by
    have := foldl_len l (insR x S)
    have := insR_len x S
    rw [List.foldl_cons]
    simp
    omega
theorem riseL_len (l : List Rat) : (riseL l).length ≤ l.length := by
  have := foldl_len l []
  unfold riseL
  simpa using this
/-- sorted lists: fewer members, less long -/
theorem ris_sub : ∀ {l S : List Rat}, Ris l → Ris S → (∀ z ∈ l, z ∈ S) → l.length ≤ S.length ∧ (l.length = S.length → l = S)
  | [], S, _, _, _ => ⟨by simp, fun h => (List.length_eq_zero_iff.mp h.symm).symm⟩
  | x :: l, [], _, _, h => by
    have := h x (by simp)
    simp at this
  | x :: l, y :: S, h1, h2, h => by
    have p1 := List.pairwise_cons.mp h1
    have p2 := List.pairwise_cons.mp h2
    rcases List.mem_cons.mp (h x (by simp)) with e | hx
    · subst e
      have ih := ris_sub p1.2 p2.2 (fun z hz => by
        rcases List.mem_cons.mp (h z (List.mem_cons_of_mem _ hz)) with e | h'
        · have := p1.1 z hz
          grind
        · exact h')
      refine ⟨by simp; exact ih.1, fun e => ?_⟩
      rw [ih.2 (by simpa using e)]
    · have ih := ris_sub h1 p2.2 (fun z hz => by
        rcases List.mem_cons.mp (h z hz) with e | h'
        · rcases List.mem_cons.mp hz with e' | hz'
          · subst e'
            exact hx
          · have := p1.1 z hz'
            have := p2.1 x hx
            grind
        · exact h')
      have := ih.1
      refine ⟨by simp at this ⊢; omega, fun e => ?_⟩
      simp at this e
      omega
/-- the points closed so many times -/
def clK (ks : List Kn) : Nat → List Rat
  | 0 => riseL ((leastK ks).map (·.1))
  | t + 1 => riseL (clK ks t ++ (clK ks t).map (valK ks))
theorem clK_ris (ks : List Kn) : ∀ t, Ris (clK ks t)
  | 0 => ris_riseL _
  | _ + 1 => ris_riseL _
theorem clK_sub {ks : List Kn} {t : Nat} : ∀ z ∈ clK ks t, z ∈ clK ks (t + 1) := fun z hz => by
  unfold clK
  rw [mem_riseL]
  exact List.mem_append_left _ hz
theorem clK_mono {ks : List Kn} {t : Nat} : (clK ks t).length ≤ (clK ks (t + 1)).length := (ris_sub (clK_ris ks t) (clK_ris ks (t + 1)) clK_sub).1
theorem clK_le {ks : List Kn} {s : Nat} : ∀ {t : Nat}, s ≤ t → (clK ks s).length ≤ (clK ks t).length
  | 0, h => by
    have : s = 0 := by omega
    subst this
    exact Nat.le_refl _
  | t + 1, h => by
    by_cases e : s = t + 1
    · subst e
      exact Nat.le_refl _
    · exact Nat.le_trans (clK_le (show s ≤ t by omega)) clK_mono
theorem clK_fix {ks : List Kn} {s : Nat} (h : (clK ks (s + 1)).length ≤ (clK ks s).length) : ∀ t, s ≤ t → clK ks t = clK ks s
  | 0, h' => by
    have : s = 0 := by omega
    subst this
    rfl
  | t + 1, h' => by
    have e : clK ks (s + 1) = clK ks s := ((ris_sub (clK_ris ks s) (clK_ris ks (s + 1)) clK_sub).2 (Nat.le_antisymm clK_mono h)).symm
    by_cases c : s = t + 1
    · subst c
      rfl
    · have ih := clK_fix h t (by omega)
      rw [clK, ih]
      rw [clK] at e
      exact e
/-! ### == and in of rows of things -/
theorem py_lst {α : Type} [DecidableEq α] {n : Nat} {f : α → D} {g : α → PyData} (h : Enc n f g) {a : Addr} {m : Mu} {xs : List α} {k : Nat} (hm : m a = some (.lst (xs.map f))) (hn : n + 1 ≤ k) : DL.py m k (.ref a) = some (.list (xs.map g)) := by
  cases k with
  | zero => omega
  | succ k =>
    unfold DL.py
    simp only [hm]
    rw [pyAll_map (fun x => h.py m k x (by omega)) xs]
theorem any_mem {α : Type} [DecidableEq α] {g : α → PyData} (h : ∀ x y : α, PyData.eqv (g x) (g y) = decide (x = y)) (x : α) : ∀ xs : List α, ((xs.map g).any fun z => PyData.eqv z (g x)) = decide (x ∈ xs)
  | [] => by simp
  | y :: xs => by
    rw [List.map_cons, List.any_cons, any_mem h x xs, h, Bool.eq_iff_iff]
    simp only [Bool.or_eq_true, decide_eq_true_eq, List.mem_cons]
    constructor
    · rintro (h | h)
      · exact .inl h.symm
      · exact .inr h
    · rintro (h | h)
      · exact .inl h.symm
      · exact .inr h
theorem enc_in_tup {α : Type} [DecidableEq α] {n : Nat} {f : α → D} {g : α → PyData} (h : Enc n f g) {m : Mu} {x : α} {xs : List α} {neg : Bool} {R : DK} (hR : R (.bl (xor neg (decide (x ∈ xs)))) m) (hn : n ≤ deep := by decide) : gIn neg (f x) (.tup (xs.map f)) m R := by
  rw [gIn_, h.py m deep x hn, optK_some, seqK_tup, pyAll_map (fun y => h.py m deep y hn) xs, optK_some, any_mem h.eqv]
  exact hR
theorem enc_in_ref {α : Type} [DecidableEq α] {n : Nat} {f : α → D} {g : α → PyData} (h : Enc n f g) {a : Addr} {m : Mu} {x : α} {xs : List α} {neg : Bool} {R : DK} (hm : m a = some (.lst (xs.map f))) (hR : R (.bl (xor neg (decide (x ∈ xs)))) m) (hn : n ≤ deep := by decide) : gIn neg (f x) (.ref a) m R := by
  rw [gIn_, h.py m deep x hn, optK_some, seqK_ref, hm, lstK_lst, pyAll_map (fun y => h.py m deep y hn) xs, optK_some, any_mem h.eqv]
  exact hR
/-- a comprehension of like things against [] -/
theorem enc_nil {α : Type} {n : Nat} {f : α → D} {g : α → PyData} (h : ∀ (m : Mu) (k : Nat) (x : α), n ≤ k → DL.py m k (f x) = some (g x)) {m : Mu} {xs : List α} {neg : Bool} {R : DK} (hR : R (.bl (xor neg (decide (xs = [])))) m) (hn : n ≤ deep := by decide) : gEqNN neg (xs.map f) [] m R := by
  rw [gEqNN_, pyAll_map (fun y => h m deep y hn) xs, optK_some]
  show R (.bl (xor neg (PyData.eqv (.list (xs.map g)) (.list [])))) m
  have e2 : PyData.eqv (.list (xs.map g)) (.list []) = decide (xs = []) := by
    cases xs <;> simp [PyData.eqv, PyData.eqvAll]
  rw [e2]
  exact hR
theorem setK_last {l : List D} {x y : D} {k : List D → Prop} (h : k (l ++ [y])) : setK (l ++ [x]) (-1) y k := by
  unfold setK ixN
  rw [if_neg (by omega)]
  first
    | (rw [if_pos (by simp; omega)]
       show k ((l ++ [x]).set _ y)
       have e : ((-1 : Int) + ((l ++ [x]).length : Int)).toNat = l.length := by simp; omega
       rw [e]
       simpa using h)
    | (simp; simpa using h)
/-! ### the pieces as the law lays them -/
def ic (a b : Kn) : Rat := a.2 - slp a b * a.1
def quadD (p : Kn × Kn) : D := .tup [fr p.1.1, fr p.2.1, fr (slp p.1 p.2), fr (ic p.1 p.2)]
theorem ic_skip {a k n : Kn} (h1 : a.1 < k.1) (h2 : k.1 < n.1) (h : slp a k = slp k n) : slp a n = slp k n ∧ ic a n = ic k n ∧ ic a k = ic k n := by
  have e := slp_through h1 h2 h
  have e1 := slp_mul h1
  unfold ic
  rw [e, h]
  rw [h] at e1
  refine ⟨rfl, ?_, ?_⟩ <;> grind
theorem slp_bd {a b : Kn} {n : Nat} (ha : Bd n a.1 ∧ Bd n a.2) (hb : Bd n b.1 ∧ Bd n b.2) (h : a.1 < b.1) : Bd (4 * n + 2) (slp a b) := by
  have s1 : Bd (2 * n + 1) (b.2 - a.2) := hb.2.sub ha.2
  have s2 : Bd (2 * n + 1) (b.1 - a.1) := hb.1.sub ha.1
  exact s1.div s2 (by grind)
theorem ic_bd {a b : Kn} {n : Nat} (ha : Bd n a.1 ∧ Bd n a.2) (hb : Bd n b.1 ∧ Bd n b.2) (h : a.1 < b.1) : Bd (6 * n + 3) (ic a b) := by
  have s1 := slp_bd ha hb h
  have s2 : Bd (5 * n + 2) (slp a b * a.1) := s1.mul ha.1
  exact ha.2.sub s2
theorem getL_pairs {a k : Kn} : ∀ {l : List Kn}, pairs (a :: lk a [k]) = [(a, k)] := by simp [lk, pairs]
/-! ### maps of this family: sizes -/
theorem KnC.pf1 {ks : List Kn} (h : KnC ks) : ∃ be : Nat, 0 < be ∧ be ≤ 2 ^ 20 ∧ PF1 be (2 ^ 21) ks := by
  obtain ⟨be, b1, b2, hk⟩ := h.cd
  refine ⟨be, b1, by omega, ⟨fun k hm => ?_, fun p hp => ?_⟩⟩
  · obtain ⟨z, w, _, _, e1, e2⟩ := hk k hm
    rw [e1, e2]
    exact ⟨df_div b1, df_div b1⟩
  · obtain ⟨z1, w1, hz1, hw1, e1, e2⟩ := hk _ (pairs_mem hp).1
    obtain ⟨z2, w2, hz2, hw2, e3, e4⟩ := hk _ (pairs_mem hp).2
    exact lf_of b1 e1 e2 e3 e4 (pairs_lt h.inc hp) (by omega) (by omega)
theorem div_small {z : Int} {be : Nat} (hb : 1 ≤ be) {r : Nat} (h1 : -((2 : Int) ^ r) ≤ z) (h2 : z ≤ (2 : Int) ^ r) : -((2 : Rat) ^ r) ≤ (z : Rat) / ((be : Int) : Rat) ∧ (z : Rat) / ((be : Int) : Rat) ≤ (2 : Rat) ^ r := by
  have hb' : (1 : Rat) ≤ ((be : Int) : Rat) := by
    have : (1 : Int) ≤ (be : Int) := by omega
    exact_mod_cast this
  have n0 : ((be : Int) : Rat) ≠ 0 := by grind
  have d : (z : Rat) / ((be : Int) : Rat) * ((be : Int) : Rat) = z := Rat.div_mul_cancel n0
  have p0 : (0 : Rat) ≤ (2 : Rat) ^ r := by
    have : (0 : Rat) ≤ ((2 ^ r : Nat) : Rat) := Rat.natCast_nonneg
    rwa [Rat.natCast_pow] at this
  have g1 : -((2 : Rat) ^ r) ≤ (z : Rat) := by
    have := Rat.intCast_le_intCast.mpr h1
    rw [Rat.intCast_neg, Rat.intCast_pow] at this
    exact this
  have g2 : (z : Rat) ≤ (2 : Rat) ^ r := by
    have := Rat.intCast_le_intCast.mpr h2
    rw [Rat.intCast_pow] at this
    exact this
  constructor
  · rcases rlt ((z : Rat) / ((be : Int) : Rat)) (-((2 : Rat) ^ r)) with q | q
    · have := Rat.mul_le_mul_of_nonneg_left hb' (show (0 : Rat) ≤ -((z : Rat) / ((be : Int) : Rat)) by grind)
      grind
    · exact q
  · rcases rlt ((2 : Rat) ^ r) ((z : Rat) / ((be : Int) : Rat)) with q | q
    · have := Rat.mul_le_mul_of_nonneg_left hb' (show (0 : Rat) ≤ ((z : Rat) / ((be : Int) : Rat)) by grind)
      grind
    · exact q
theorem KnC.ends {ks : List Kn} (h : KnC ks) : -((2 : Rat) ^ 20) ≤ loK ks ∧ hiK ks ≤ (2 : Rat) ^ 20 := by
  obtain ⟨be, b1, b2, hk⟩ := h.cd
  obtain ⟨k0, hk0, e0⟩ := loK_mem h.good.ne
  obtain ⟨k1, hk1, e1⟩ := hiK_mem h.good.ne
  constructor
  · obtain ⟨z, w, hz, _, e, _⟩ := hk k0 hk0
    rw [← e0, e]
    exact (div_small b1 hz.1 hz.2).1
  · obtain ⟨z, w, hz, _, e, _⟩ := hk k1 hk1
    rw [← e1, e]
    exact (div_small b1 hz.1 hz.2).2
/-- points of so many turns: within the stretch, of few bits -/
def PtT (ks : List Kn) (be V : Nat) (p : Rat) : Prop := loK ks ≤ p ∧ p ≤ hiK ks ∧ DF be V p
theorem PtT.val {ks : List Kn} {be V M : Nat} {p : Rat} (hk : KnC ks) (hb : 0 < be) (pf : PF1 be M ks) (h : PtT ks be V p) : PtT ks be (V * M) (valK ks p) := by
  have g := hk.good
  have r := g.val h.1 h.2.1
  obtain ⟨q, hq, _, _, e⟩ := g.piece h.1 h.2.1
  refine ⟨r.1, r.2, ?_⟩
  rw [e]
  exact DF.val hb (pairs_lt g.inc hq) (pf.pc q hq) h.2.2
theorem PtT.bd {ks : List Kn} {be V n : Nat} {p : Rat} (hk : KnC ks) (hb : 0 < be) (hb' : be ≤ 2 ^ 20) (h : PtT ks be V p) (hV : V ≤ 2 ^ n) (hn : n ≤ 350) : Bd 400 p := by
  have e := hk.ends
  exact h.2.2.bd (r := 20) hb hb' hV (by have := h.1; grind) (by have := h.2.1; grind) (by omega)
theorem clK_pt {ks : List Kn} {be : Nat} (hk : KnC ks) (hb : 0 < be) (pf : PF1 be (2 ^ 21) ks) : ∀ t, ∀ p ∈ clK ks t, PtT ks be ((2 ^ 21) ^ t) p
  | 0, p, hp => by
    unfold clK at hp
    rw [mem_riseL] at hp
    obtain ⟨k, hk', rfl⟩ := List.mem_map.mp hp
    have mk := (leastK_sub ks).subset hk'
    have r := hk.good.le mk
    exact ⟨r.1, r.2, by rw [Nat.pow_zero]; exact (pf.kn k mk).1⟩
  | t + 1, p, hp => by
    unfold clK at hp
    rw [mem_riseL, List.mem_append] at hp
    rcases hp with hp | hp
    · have := clK_pt hk hb pf t p hp
      refine ⟨this.1, this.2.1, this.2.2.mono ?_⟩
      rw [Nat.pow_succ]
      exact Nat.le_mul_of_pos_right _ (by decide)
    · obtain ⟨q, hq, rfl⟩ := List.mem_map.mp hp
      have := (clK_pt hk hb pf t q hq).val hk hb pf
      rw [← Nat.pow_succ] at this
      exact this
theorem clK_bd {ks : List Kn} (hk : KnC ks) {t : Nat} (ht : t ≤ 16) : ∀ p ∈ clK ks t, loK ks ≤ p ∧ p ≤ hiK ks ∧ Bd 400 p := by
  obtain ⟨be, b1, b2, pf⟩ := hk.pf1
  intro p hp
  have := clK_pt hk b1 pf t p hp
  refine ⟨this.1, this.2.1, this.bd hk b1 b2 (n := 336) ?_ (by decide)⟩
  rw [← Nat.pow_mul]
  exact Nat.pow_le_pow_right (by decide) (by omega)
theorem neNil_any {α : Type} {n : Nat} {f : α → D} {g : α → PyData} (h : ∀ (m : Mu) (k : Nat) (x : α), n ≤ k → DL.py m k (f x) = some (g x)) {a : Addr} {m : Mu} {xs : List α} {neg : Bool} {R : DK} (hm : m a = some (.lst (xs.map f))) (hR : R (.bl (xor neg (decide (xs = [])))) m) (hn : n + 1 ≤ deep := by decide) : gEqN neg (.ref a) [] m R := by
  have e : DL.py m deep (.ref a) = some (.list (xs.map g)) := by
    show DL.py m (11 + 1) (.ref a) = _
    unfold DL.py
    simp only [hm]
    rw [pyAll_map (fun x => h m 11 x (by have : deep = 12 := rfl; omega)) xs]
  unfold gEqN
  rw [e]
  show R (.bl (xor neg (PyData.eqv (.list (xs.map g)) (.list [])))) m
  have e2 : PyData.eqv (.list (xs.map g)) (.list []) = decide (xs = []) := by
    cases xs <;> simp [PyData.eqv, PyData.eqvAll]
  rw [e2]
  exact hR
def quadP (p : Kn × Kn) : PyData := .tuple [frP p.1.1, frP p.2.1, frP (slp p.1 p.2), frP (ic p.1 p.2)]
theorem py_quad (m : Mu) (k : Nat) (p : Kn × Kn) (h : 3 ≤ k) : DL.py m k (quadD p) = some (quadP p) := by
  cases k with
  | zero => omega
  | succ k =>
    refine py_tup ?_
    have e : ∀ q, DL.py m k (fr q) = some (frP q) := fun q => enc_fr.py m k q (by omega)
    simp only [pyAll, e]
theorem cut_quad {a b c d : D} : cutD [a, b, c, d] (some 2) none = [c, d] := by
  have := cutD_drop (f := id) (xs := [a, b, c, d]) (k := 2) (by decide) (by simp)
  simpa using this
/-- a comprehension by what holds ahead of the items that are left -/
theorem lc_ind {α : Type} {G : Mu → Prop} {g : DTG} {tt : DTT} {te : DTE} {r0 : DSt} {R : List D → Mu → Prop} (e : α → D) (I : List α → List D → Mu → Prop) (h0 : ∀ acc m, I [] acc m → G m ∧ R acc m)
    (h1 : ∀ x xs acc m (W : List D → Mu → Prop), (∀ acc m, I xs acc m → W acc m) → I (x :: xs) acc m → G m ∧ g (e x) r0 m fun r2 m2 => tt r2 m2 fun b m3 => if b = true then te r2 m3 fun y m4 => acc.length < sizeLine ∧ W (acc ++ [y]) m4 else W acc m3) :
    ∀ xs acc m, I xs acc m → lcL G g tt te r0 (xs.map e) acc m R
  | [], acc, m, h => by rw [List.map_nil, lcL_nil]; exact h0 acc m h
  | x :: xs, acc, m, h => by
    rw [List.map_cons, lcL_cons]
    exact h1 x xs acc m (fun acc m => lcL G g tt te r0 (xs.map e) acc m R) (fun acc m h => lc_ind e I h0 h1 xs acc m h) h
theorem zip_map2 {α β : Type} {f : α → D} {g : β → D} : ∀ (xs : List α) (ys : List β), zipItems (xs.map f) (ys.map g) = (xs.zip ys).map fun p => .tup [f p.1, g p.2]
  | [], ys => by cases ys <;> rfl
  | x :: xs, [] => rfl
  | x :: xs, y :: ys => by
    rw [List.map_cons, List.map_cons, zipItems, zip_map2 xs ys]
    rfl
theorem KnC.markov {ks ks' : List Kn} (h : KnC ks) (e1 : ks'.map (·.1) = ks.map (·.1)) (e2 : ∀ k ∈ ks', ∃ j ∈ ks, k.2 = j.1) : KnC ks' := by
  have g := h.good
  have hl : ks'.length = ks.length := by
    have := congrArg List.length e1
    simpa using this
  have hx : ∀ k ∈ ks', ∃ j ∈ ks, k.1 = j.1 := by
    intro k hk
    have h1 : k.1 ∈ ks'.map (·.1) := List.mem_map_of_mem hk
    rw [e1] at h1
    obtain ⟨j, hj, e⟩ := List.mem_map.mp h1
    exact ⟨j, hj, e.symm⟩
  have hne : ks' ≠ [] := by
    intro e
    rw [e] at hl
    have := g.len
    simp at hl
    omega
  have hinc : Inc ks' := by
    have : (ks'.map (·.1)).Pairwise (fun p q => p < q) := by
      rw [e1, List.pairwise_map]
      exact g.inc
    rw [List.pairwise_map] at this
    exact this
  have lo : loK ks' = loK ks := by
    match ks, ks', hne, g.ne, e1 with
    | k :: l, k' :: l', _, _, e1 =>
      simp at e1
      exact e1.1
  have hi : hiK ks' = hiK ks := by
    have h1 := hiK_last hne
    have h2 := hiK_last g.ne
    rw [e1, h2] at h1
    simpa using h1.symm
  obtain ⟨be, b1, b2, hc⟩ := h.cd
  refine ⟨⟨by rw [hl]; exact g.len, hinc, rfl, rfl, fun k hk => ?_⟩, fun k hk => ?_, be, b1, b2, fun k hk => ?_⟩
  · obtain ⟨j, hj, e⟩ := e2 k hk
    rw [e, lo, hi]
    exact g.le hj
  · obtain ⟨j, hj, e⟩ := e2 k hk
    obtain ⟨i, hi', e'⟩ := hx k hk
    rw [e, e']
    exact ⟨(h.bd i hi').1, (h.bd j hj).1⟩
  · obtain ⟨j, hj, e⟩ := e2 k hk
    obtain ⟨i, hi', e'⟩ := hx k hk
    obtain ⟨z, w, hz, _, ez, _⟩ := hc i hi'
    obtain ⟨z', w', hz', _, ez', _⟩ := hc j hj
    exact ⟨z, z', hz, hz', e'.trans ez, e.trans ez'⟩
/-- whether a parting fits -/
def Fits (ks : List Kn) (ps : List Rat) : Prop := (ps.head? = some (loK ks) ∧ ps.getLast? = some (hiK ks)) ∧ (∀ p ∈ ps, valK ks p ∈ ps) ∧ ∀ k ∈ leastK ks, k.1 ∈ ps
open Classical in
noncomputable def fitsB (ks : List Kn) (ps : List Rat) : Bool := decide (Fits ks ps)
/-- a row of points as these laws draw them -/
def Pts (ks : List Kn) (ps : List Rat) : Prop := ps ≠ [] ∧ ps.length ≤ 100 ∧ ∀ p ∈ ps, loK ks ≤ p ∧ p ≤ hiK ks ∧ Bd 400 p
theorem starts_iff {ks : List Kn} {ps : List Rat} (h2 : 2 ≤ ks.length) (hl : ps.getLast? = some (hiK ks)) : (∀ p ∈ pairs (leastK ks), p.1.1 ∈ ps) ↔ ∀ k ∈ leastK ks, k.1 ∈ ps := by
  have key : ∀ l : List Kn, 2 ≤ l.length → hiK l ∈ ps → ((∀ p ∈ pairs l, p.1.1 ∈ ps) ↔ ∀ k ∈ l, k.1 ∈ ps) := by
    intro l
    induction l with
    | nil => intro h; simp at h
    | cons a l ih =>
      intro h hh
      match l, ih, h, hh with
      | [b], _, _, hh =>
        rw [hiK_cons, hiK] at hh
        simp [pairs, hh]
      | b :: c :: r, ih, _, hh =>
        rw [hiK_cons] at hh
        have ih := ih (by simp) hh
        rw [pairs_cons]
        constructor
        · intro h k hk
          rcases List.mem_cons.mp hk with rfl | hk
          · exact h _ List.mem_cons_self
          · exact ih.mp (fun p hp => h p (List.mem_cons_of_mem _ hp)) k hk
        · intro h p hp
          rcases List.mem_cons.mp hp with rfl | hp
          · exact h _ List.mem_cons_self
          · exact ih.mpr (fun k hk => h k (List.mem_cons_of_mem _ hk)) p hp
  exact key _ (leastK_len h2) (by rw [hiK_least]; exact List.mem_of_getLast? hl)
theorem fits_false {ks : List Kn} {ps : List Rat} (h : ¬ Fits ks ps) : fitsB ks ps = false := by
  unfold fitsB
  simp [h]
theorem fits_true {ks : List Kn} {ps : List Rat} (h : Fits ks ps) : fitsB ks ps = true := by
  unfold fitsB
  simp [h]
theorem seed_sub {a : Addr} {m m' : Mu} (h : isSeed (m a)) (hs : Sub m m') : isSeed (m' a) := by
  obtain ⟨n, f, k, c, e⟩ := isSeed_of h
  rw [hs a _ e]
  exact isSeed_mk n f k c
theorem Ext.sub {a : Addr} {m m1 m2 : Mu} (h : Ext a m m1) (hs : Sub m1 m2) : Ext a m m2 := fun x o hx e => hs x o (h x o hx e)
theorem clK_ne {ks : List Kn} (h : ks ≠ []) : ∀ t, 1 ≤ (clK ks t).length := by
  have h0 : 1 ≤ (clK ks 0).length := by
    match ks, h with
    | k :: l, _ =>
      have : k.1 ∈ clK (k :: l) 0 := by
        rw [clK, mem_riseL]
        show k.1 ∈ (k :: lk k l).map (·.1)
        simp
      exact List.length_pos_iff.mpr (List.ne_nil_of_mem this)
  intro t
  exact Nat.le_trans h0 (clK_le (Nat.zero_le t))

/-! ### words of l, c and r -/
def wD (l : List Nat) : D := .str (SX.S l)
def Lt (c : Nat) : Prop := c = 108 ∨ c = 99 ∨ c = 114
def Wd (l : List Nat) : Prop := ∀ c ∈ l, Lt c
def rkN (c : Nat) : Int := if c = 108 then 0 else if c = 99 then 1 else 2
/-- by the first unlike letters -/
def wc : Int → List Nat → List Nat → Int
  | w, a :: as, b :: bs => if a = b then wc (if a = 114 then -w else w) as bs else w * (if rkN b < rkN a then 1 else -1)
  | _, _, _ => 0
theorem wc_swap : ∀ (as bs : List Nat) (w : Int), Wd as → Wd bs → wc w bs as = - wc w as bs
  | [], bs, w, _, _ => by cases bs <;> simp [wc]
  | a :: as, [], w, _, _ => by simp [wc]
  | a :: as, b :: bs, w, ha, hb => by
    have la := ha a (by simp)
    have lb := hb b (by simp)
    unfold wc
    by_cases c : a = b
    · subst c
      rw [if_pos rfl, if_pos rfl, wc_swap as bs _ (fun x hx => ha x (List.mem_cons_of_mem _ hx)) (fun x hx => hb x (List.mem_cons_of_mem _ hx))]
    · rw [if_neg c, if_neg (fun h => c h.symm)]
      unfold Lt at la lb
      have : (if rkN a < rkN b then (1 : Int) else -1) = - (if rkN b < rkN a then (1 : Int) else -1) := by
        unfold rkN
        rcases la with rfl | rfl | rfl <;> rcases lb with rfl | rfl | rfl <;> simp at c ⊢
      rw [this, Int.mul_neg]
theorem wD_len {l : List Nat} {m : Mu} {R : DK} : gLen [wD l] m R = (l.length ≤ sizeLine ∧ R (.int l.length) m) := by
  unfold wD
  rw [gLen_str, SX.S_len]
theorem wD_at {l : List Nat} {i : Int} {n : Nat} {c : Nat} {m : Mu} {R : DK} (hl : l.length ≤ sizeLine) (e : i = n) (h : l[n]? = some c) (q : R (wD [c]) m) : gIx (wD l) (.int i) m R := by
  unfold wD
  rw [gIx_str, SX.S_len]
  refine ⟨hl, ?_⟩
  have : atI (SX.S l).cps.toList i = some c := by
    rw [e]
    exact atI_nat (by simpa using h)
  rw [this, optK_some]
  exact q
theorem wD_cut {l : List Nat} {lo hi : Option Int} {m : Mu} {R : DK} : gCut lo hi (wD l) m R = (l.length ≤ sizeLine ∧ R (.str (cutS (SX.S l) lo hi)) m) := by
  unfold wD
  rw [gCut_str, SX.S_len]
theorem cutS_take {l : List Nat} {k : Int} (h : 0 ≤ k) : D.str (cutS (SX.S l) none (some k)) = wD (l.take k.toNat) := by
  unfold wD cutS
  have e : HT.sIx (SX.S l).length (SX.S l).length (some k) = min k.toNat l.length := by
    have := HT.sIx_nat (SX.S l).length (SX.S l).length k.toNat
    rw [Int.toNat_of_nonneg h, SX.S_len] at this
    rw [SX.S_len]
    exact this
  rw [e, HT.sIx_none]
  congr 3
  simp only [List.drop_zero, Nat.sub_zero]
  show l.take (min k.toNat l.length) = _
  rw [List.take_eq_take_iff]
  simp
theorem cutS_drop {l : List Nat} {k : Int} (h : 0 ≤ k) : D.str (cutS (SX.S l) (some k) none) = wD (l.drop k.toNat) := by
  unfold wD cutS
  have e : HT.sIx (SX.S l).length 0 (some k) = min k.toNat l.length := by
    have := HT.sIx_nat (SX.S l).length 0 k.toNat
    rw [Int.toNat_of_nonneg h, SX.S_len] at this
    rw [SX.S_len]
    exact this
  rw [e, HT.sIx_none, SX.S_len]
  congr 3
  show (l.drop (min k.toNat l.length)).take (l.length - min k.toNat l.length) = _
  rw [List.take_of_length_le (by simp)]
  rcases Nat.le_total k.toNat l.length with c | c
  · rw [Nat.min_eq_left c]
  · rw [Nat.min_eq_right c, List.drop_eq_nil_of_le (Nat.le_refl _), List.drop_eq_nil_of_le c]
theorem wD_add {l k : List Nat} {m : Mu} {R : DK} : gAdd (wD l) (wD k) m R = (l.length + k.length ≤ sizeLine ∧ R (wD (l ++ k)) m) := by
  unfold wD
  rw [gAdd_str, SX.S_len, SX.S_len, SX.S_cat]
theorem wD_row {l : List Nat} {m : Mu} : rowIt m (wD l) = some ⟨l.map fun c => wD [c], fun _ => True⟩ := by
  unfold wD
  rw [rowIt_str]
theorem wD_inj {a b : List Nat} : SX.S a = SX.S b ↔ a = b := ⟨SX.S_inj, fun h => by rw [h]⟩
theorem lit_of {z : Str} {l : List Nat} (h : z = SX.S l) : D.str z = wD l := by rw [h]; rfl
theorem lit_lcr : D.str "lcr" = wD [108, 99, 114] := lit_of (by decide +kernel)
theorem lit_lr : D.str "lr" = wD [108, 114] := lit_of (by decide +kernel)
theorem lit_r : D.str "r" = wD [114] := lit_of (by decide +kernel)
theorem lit_rrc : D.str "rrc" = wD [114, 114, 99] := lit_of (by decide +kernel)
theorem lit_e : D.str "" = wD [] := lit_of (by decide +kernel)
theorem idx_lcr {c : Nat} {m : Mu} {R : DK} (h : Lt c) (q : R (.int (rkN c)) m) : gStrIndex (wD [108, 99, 114]) [wD [c]] m R := by
  unfold Lt at h
  rcases h with rfl | rfl | rfl
  · have e : Builtin.Str.occurrences (SX.S [108, 99, 114]) (SX.S [108]) 0 (SX.S [108, 99, 114]).length 1 = [0] := by decide +kernel
    unfold gStrIndex wD
    simp only [e]
    exact q
  · have e : Builtin.Str.occurrences (SX.S [108, 99, 114]) (SX.S [99]) 0 (SX.S [108, 99, 114]).length 1 = [1] := by decide +kernel
    unfold gStrIndex wD
    simp only [e]
    exact q
  · have e : Builtin.Str.occurrences (SX.S [108, 99, 114]) (SX.S [114]) 0 (SX.S [108, 99, 114]).length 1 = [2] := by decide +kernel
    unfold gStrIndex wD
    simp only [e]
    exact q
theorem wD_eq {a b : List Nat} {m : Mu} {R : DK} : gEq (wD a) (wD b) m R = R (.bl (decide (a = b))) m := by
  unfold wD
  rw [gEq_str]
  congr 2
  rw [decide_eq_decide]
  exact wD_inj
theorem wD_ne {a b : List Nat} {m : Mu} {R : DK} : gNe (wD a) (wD b) m R = R (.bl (!decide (a = b))) m := by
  unfold wD
  rw [gNe_str]
  congr 3
  rw [decide_eq_decide]
  exact wD_inj
theorem wD_isStr {l : List Nat} : isStr (wD l) = True := eq_true trivial
theorem wD_count {l : List Nat} {c : Nat} {m : Mu} {R : DK} : gStrCount (wD l) [wD [c]] m R = R (.int (PyProof.Rows.cnt c l)) m := by
  unfold wD
  rw [gStrCount_, PyProof.Rows.count_cnt]
theorem strs_wD : ∀ l : List Nat, strsOf (l.map fun c => wD [c]) = some (l.map fun c => SX.S [c])
  | [] => rfl
  | c :: l => by
    rw [List.map_cons]
    show (strsOf (l.map fun c => wD [c])).map (SX.S [c] :: ·) = _
    rw [strs_wD l]
    rfl
theorem joinL_one : ∀ l : List Nat, TL.joinL [] (l.map fun c => [c]) = l
  | [] => rfl
  | [c] => rfl
  | c :: d :: l => by
    have ih := joinL_one (d :: l)
    rw [List.map_cons] at ih
    rw [List.map_cons, List.map_cons]
    show [c] ++ ([] ++ TL.joinL [] ([d] :: l.map fun c => [c])) = _
    rw [ih]
    rfl
theorem join_wD (l : List Nat) : Txt.join (SX.S []) (l.map fun c => SX.S [c]) = SX.S l := by
  have := SX.join_S [] (l.map fun c => [c])
  rw [List.map_map, joinL_one] at this
  exact this
theorem cutS_takeS {l : List Nat} {k : Int} (h : 0 ≤ k) : cutS (SX.S l) none (some k) = SX.S (l.take k.toNat) := by
  have := cutS_take (l := l) h
  unfold wD at this
  injection this
theorem ofs_r : Str.ofString "r" = ⟨#[114]⟩ := by decide +kernel

/-! ### grids -/
structure Grid where
  f : Int
  l : Int
  n : Nat
  b : Nat
def gridD (g : Grid) : D := .tup [.int g.f, .int g.l, .int g.n, .int g.b]
def atG (g : Grid) (k : Int) : Rat := ((g.f * g.n + (g.l - g.f) * k : Int) : Rat) / (((g.n : Int) * (g.b : Int) : Int) : Rat)
structure Grid.Ok (g : Grid) : Prop where
  f0 : -6 ≤ g.f ∧ g.f ≤ 6
  l0 : g.f < g.l ∧ g.l ≤ g.f + 9
  n0 : 2 ≤ g.n ∧ g.n ≤ 100
  b0 : 1 ≤ g.b ∧ g.b ≤ 28
theorem enum_map {α : Type} {f : α → D} : ∀ (xs : List α) (k : Nat), enumItems (xs.map f) k = (xs.zipIdx k).map fun p => D.tup [.int (p.2 : Int), f p.1]
  | [], k => rfl
  | x :: xs, k => by
    rw [List.map_cons, List.zipIdx_cons, List.map_cons, ← enum_map xs (k + 1)]
    rfl
/-- a map on a grid, by its places -/
def gkn (g : Grid) (zs : List (Int × Int)) : List Kn := zs.map fun z => (atG g z.1, atG g z.2)
structure GZ (g : Grid) (zs : List (Int × Int)) : Prop where
  up : (zs.map (·.1)).Pairwise (fun a b => a < b)
  rng : ∀ z ∈ zs, (0 ≤ z.1 ∧ z.1 ≤ (g.n : Int)) ∧ 0 ≤ z.2 ∧ z.2 ≤ (g.n : Int)
  h0 : (zs.map (·.1)).head? = some 0
  hL : (zs.map (·.1)).getLast? = some (g.n : Int)
  len : 2 ≤ zs.length

/-! ### two maps with the same values have the same fewest knots -/
def Mn : List Kn → Prop
  | a :: b :: c :: l => slp a b ≠ slp b c ∧ Mn (b :: c :: l)
  | _ => True
theorem mn_lk : ∀ (l : List Kn) (a : Kn), Inc (a :: l) → Mn (a :: lk a l)
  | [], a, _ => by rw [lk]; trivial
  | [z], a, _ => by rw [lk]; trivial
  | k :: n :: l, a, h => by
    rw [lk_cons]
    by_cases c : slp a k = slp k n
    · rw [if_pos c]; exact mn_lk (n :: l) a h.skip
    · rw [if_neg c]
      have ih := mn_lk (n :: l) k h.tail
      obtain ⟨n', r, e, e'⟩ := lk_head l k n h.tail
      rw [e] at ih ⊢
      exact ⟨by rw [e']; exact c, ih⟩
theorem val_head {b : Kn} {l : List Kn} (h : Inc (b :: l)) : valK (b :: l) b.1 = b.2 := by
  cases l with
  | nil => rw [valK]
  | cons c l => exact val_mem h (by simp) (by simp)
theorem mn_step {a b b' : Kn} {l l' : List Kn} (h : Inc (a :: b :: l)) (h' : Inc (a :: b' :: l')) (hm : Mn (a :: b :: l)) (hh : hiK (a :: b :: l) = hiK (a :: b' :: l'))
    (hv : ∀ t, a.1 ≤ t → t ≤ hiK (a :: b :: l) → valK (a :: b :: l) t = valK (a :: b' :: l') t) : ¬ b.1 < b'.1 := by
  intro hlt
  have hU := le_hiK h' (k := b') (by simp)
  rw [← hh] at hU
  have hb := h.lt
  have hb' := h'.lt
  match l, h, hm, hh, hv, hU with
  | [], h, hm, hh, hv, hU =>
    rw [hiK_cons, hiK] at hU
    grind
  | c :: l, h, hm, hh, hv, hU =>
    have hc := h.tail.lt
    have hcU := le_hiK h (k := c) (by simp)
    have e1 := hv b.1 (Rat.le_of_lt hb) (by grind)
    rw [valK_2 hb, valK_2 hb', if_neg (by grind), if_neg (by grind), ln_r hb] at e1
    obtain ⟨t, t1, t2, t3⟩ : ∃ t : Rat, b.1 < t ∧ t ≤ c.1 ∧ t ≤ b'.1 := by
      rcases rlt c.1 b'.1 with q | q
      · exact ⟨c.1, hc, Rat.le_refl, Rat.le_of_lt q⟩
      · exact ⟨b'.1, hlt, q, Rat.le_refl⟩
    have e2 := hv t (by grind) (by grind)
    rw [valK_2 hb, valK_2 hb', if_pos t1, if_neg (by grind), valK_2 hc, if_neg (by grind)] at e2
    have e3 := slp_mul hb
    refine hm.1 ?_
    unfold ln at e1 e2
    have f1 : (slp a b - slp a b') * (b.1 - a.1) = 0 := by grind
    have g1 : slp a b = slp a b' := by
      rcases Rat.mul_eq_zero.mp f1 with q | q
      · grind
      · grind
    have f2 : (slp b c - slp a b') * (t - b.1) = 0 := by grind
    have g2 : slp b c = slp a b' := by
      rcases Rat.mul_eq_zero.mp f2 with q | q
      · grind
      · grind
    rw [g1, g2]
theorem mn_uniq : ∀ (l l' : List Kn) (a : Kn), Inc (a :: l) → Inc (a :: l') → Mn (a :: l) → Mn (a :: l') → hiK (a :: l) = hiK (a :: l') → (∀ t, a.1 ≤ t → t ≤ hiK (a :: l) → valK (a :: l) t = valK (a :: l') t) → l = l'
  | [], [], _, _, _, _, _, _, _ => rfl
  | [], b :: l, a, h, h', _, _, hh, _ => by
    have := le_hiK h' (k := b) (by simp)
    rw [← hh, hiK] at this
    have := h'.lt
    grind
  | b :: l, [], a, h, h', _, _, hh, _ => by
    have := le_hiK h (k := b) (by simp)
    rw [hh, hiK] at this
    have := h.lt
    grind
  | b :: l, b' :: l', a, h, h', hm, hm', hh, hv => by
    have n1 := mn_step h h' hm hh hv
    have n2 := mn_step h' h hm' hh.symm (fun t t1 t2 => (hv t t1 (by rw [hh]; exact t2)).symm)
    have e1 : b.1 = b'.1 := by grind
    have hU := le_hiK h (k := b) (by simp)
    have e2 := hv b.1 (Rat.le_of_lt h.lt) hU
    rw [valK_2 h.lt, valK_2 h'.lt, if_neg (by grind), if_neg (by grind), ln_r h.lt, e1, ln_r h'.lt] at e2
    have e : b = b' := Prod.ext e1 e2
    subst e
    congr 1
    refine mn_uniq l l' b h.tail h'.tail ?_ ?_ (by rw [hiK_cons, hiK_cons] at hh; exact hh) (fun t t1 t2 => ?_)
    · cases l with
      | nil => trivial
      | cons c l => exact hm.2
    · cases l' with
      | nil => trivial
      | cons c l => exact hm'.2
    · rcases rlt b.1 t with q | q
      · have := hv t (by have := h.lt; grind) (by rw [hiK_cons]; exact t2)
        rw [valK_2 h.lt, valK_2 h'.lt, if_pos q, if_pos q] at this
        exact this
      · have : t = b.1 := by grind
        rw [this, val_head h.tail, val_head h'.tail]
theorem Good.val_lo {L U : Rat} {a : Kn} {l : List Kn} (h : Good L U (a :: l)) : valK (a :: l) L = a.2 := by
  have := h.lo
  rw [loK_cons] at this
  rw [← this, val_head h.inc]
theorem least_uniq {L U : Rat} {f g : List Kn} (hf : Good L U f) (hg : Good L U g) (hv : ∀ t, L ≤ t → t ≤ U → valK f t = valK g t) : leastK f = leastK g := by
  match f, g, hf, hg with
  | [], _, hf, _ => exact absurd rfl hf.ne
  | _, [], _, hg => exact absurd rfl hg.ne
  | a :: l, a' :: l', hf, hg =>
    have e : a = a' := by
      have e1 := hf.lo
      have e2 := hg.lo
      rw [loK_cons] at e1 e2
      have e3 := hv L Rat.le_refl (Rat.le_of_lt hf.lt)
      rw [hf.val_lo, hg.val_lo] at e3
      exact Prod.ext (by rw [e1, e2]) e3
    subst e
    have gf := hf.least
    have gg := hg.least
    show a :: lk a l = a :: lk a l'
    congr 1
    refine mn_uniq _ _ a gf.inc gg.inc (mn_lk l a hf.inc) (mn_lk l' a hg.inc) (by have := gf.hi; have := gg.hi; exact gf.hi.trans gg.hi.symm) (fun t t1 t2 => ?_)
    have e1 : a.1 = L := hf.lo
    have e2 : hiK (a :: lk a l) = U := gf.hi
    rw [val_lk l a hf.inc, val_lk l' a hg.inc]
    exact hv t (by grind) (by grind)
/-! ### turns: maps that rise or fall all along -/
def swp (k : Kn) : Kn := (k.2, k.1)
def swapK (ks : List Kn) : List Kn := ks.map swp
def backK (ks : List Kn) : List Kn := if hiK (swapK ks) < loK (swapK ks) then (swapK ks).reverse else swapK ks
def Up (ks : List Kn) : Prop := ks.Pairwise fun a b => a.2 < b.2
def Dn (ks : List Kn) : Prop := ks.Pairwise fun a b => b.2 < a.2
structure Turn (L U : Rat) (ks : List Kn) : Prop where
  good : Good L U ks
  kn : (Up ks ∧ loK (swapK ks) = L ∧ hiK (swapK ks) = U) ∨ (Dn ks ∧ loK (swapK ks) = U ∧ hiK (swapK ks) = L)
theorem loK_rev {l : List Kn} : loK l.reverse = hiK l := by
  by_cases h : l = []
  · subst h; rfl
  · obtain ⟨ys, z, rfl⟩ : ∃ ys z, l = ys ++ [z] := ⟨l.dropLast, l.getLast h, (List.dropLast_concat_getLast h).symm⟩
    rw [List.reverse_append]
    show z.1 = _
    rw [hiK_lastK (z := z) (by simp)]
theorem hiK_rev {l : List Kn} : hiK l.reverse = loK l := by
  have := loK_rev (l := l.reverse)
  rw [List.reverse_reverse] at this
  exact this.symm
theorem swap_swap (ks : List Kn) : swapK (swapK ks) = ks := by
  unfold swapK
  rw [List.map_map]
  exact List.map_id _
theorem swap_rev (ks : List Kn) : swapK ks.reverse = (swapK ks).reverse := by unfold swapK; rw [List.map_reverse]
theorem Turn.bk {L U : Rat} {ks : List Kn} (h : Turn L U ks) : Turn L U (backK ks) ∧ backK (backK ks) = ks := by
  have g := h.good
  have hlt := g.lt
  have lens : (swapK ks).length = ks.length := by unfold swapK; exact List.length_map _
  unfold backK
  rcases h.kn with ⟨u, e1, e2⟩ | ⟨u, e1, e2⟩
  · rw [e1, e2, if_neg (by grind), swap_swap, g.lo, g.hi, if_neg (by grind)]
    refine ⟨⟨⟨by rw [lens]; exact g.len, ?_, e1, e2, ?_⟩, .inl ⟨?_, by rw [swap_swap]; exact g.lo, by rw [swap_swap]; exact g.hi⟩⟩, rfl⟩
    · unfold Inc swapK
      rw [List.pairwise_map]
      exact u
    · intro k hk
      obtain ⟨z, hz, rfl⟩ := List.mem_map.mp hk
      exact g.le hz
    · unfold Up swapK
      rw [List.pairwise_map]
      exact g.inc
  · rw [e1, e2, if_pos hlt, swap_rev, swap_swap, loK_rev, hiK_rev, g.lo, g.hi, if_pos hlt, List.reverse_reverse]
    refine ⟨⟨⟨by rw [List.length_reverse, lens]; exact g.len, ?_, by rw [loK_rev]; exact e2, by rw [hiK_rev]; exact e1, ?_⟩, .inr ⟨?_, by rw [swap_rev, swap_swap, loK_rev]; exact g.hi, by rw [swap_rev, swap_swap, hiK_rev]; exact g.lo⟩⟩, rfl⟩
    · unfold Inc
      rw [List.pairwise_reverse]
      unfold swapK
      rw [List.pairwise_map]
      exact u
    · intro k hk
      rw [List.mem_reverse] at hk
      obtain ⟨z, hz, rfl⟩ := List.mem_map.mp hk
      exact g.le hz
    · unfold Dn
      rw [List.pairwise_reverse]
      unfold swapK
      rw [List.pairwise_map]
      exact g.inc
theorem pairs_map {α β : Type} (f : α → β) : ∀ l : List α, pairs (l.map f) = (pairs l).map fun p => (f p.1, f p.2)
  | [] => rfl
  | [a] => rfl
  | a :: b :: l => by
    have := pairs_map f (b :: l)
    simp only [List.map_cons, pairs_cons] at this ⊢
    rw [this]
theorem pairs_snoc {α : Type} : ∀ (l : List α) (a b : α), pairs (l ++ [a, b]) = pairs (l ++ [a]) ++ [(a, b)]
  | [], a, b => by simp [pairs]
  | [c], a, b => by simp [pairs]
  | c :: d :: l, a, b => by
    have := pairs_snoc (d :: l) a b
    simp only [List.cons_append, pairs_cons] at this ⊢
    rw [this]
theorem pairs_rev {α : Type} : ∀ {l : List α} {p : α × α}, p ∈ pairs l → (p.2, p.1) ∈ pairs l.reverse
  | [], p, h => by simp [pairs] at h
  | [a], p, h => by simp [pairs] at h
  | a :: b :: l, p, h => by
    rw [pairs_cons] at h
    have e : (a :: b :: l).reverse = l.reverse ++ [b, a] := by simp
    rw [e, pairs_snoc]
    rcases List.mem_cons.mp h with rfl | h
    · simp
    · have := pairs_rev h
      rw [List.reverse_cons] at this
      exact List.mem_append_left _ this
theorem pairs_rev' {α : Type} {l : List α} {p : α × α} (h : p ∈ pairs l.reverse) : (p.2, p.1) ∈ pairs l := by
  have := pairs_rev h
  rwa [List.reverse_reverse] at this
theorem pairs_rel {α : Type} {r : α → α → Prop} : ∀ {l : List α} {p : α × α}, l.Pairwise r → p ∈ pairs l → r p.1 p.2
  | [], p, _, h => by simp [pairs] at h
  | [a], p, _, h => by simp [pairs] at h
  | a :: b :: l, p, hi, h => by
    rw [pairs_cons] at h
    rcases List.mem_cons.mp h with rfl | h
    · exact (List.pairwise_cons.mp hi).1 _ (by simp)
    · exact pairs_rel (List.pairwise_cons.mp hi).2 h
theorem rel_pairs {α : Type} {r : α → α → Prop} (tr : ∀ a b c, r a b → r b c → r a c) : ∀ {l : List α}, (∀ p ∈ pairs l, r p.1 p.2) → l.Pairwise r
  | [], _ => .nil
  | [a], _ => by simp
  | a :: b :: l, h => by
    have ih := rel_pairs tr (l := b :: l) (fun p hp => h p (by rw [pairs_cons]; exact List.mem_cons_of_mem _ hp))
    have hab := h (a, b) (by rw [pairs_cons]; exact List.mem_cons_self)
    refine List.pairwise_cons.mpr ⟨fun c hc => ?_, ih⟩
    rcases List.mem_cons.mp hc with rfl | hc
    · exact hab
    · exact tr _ _ _ hab ((List.pairwise_cons.mp ih).1 c hc)
theorem ln_comm {a b : Kn} {t : Rat} (h : a.1 < b.1) : ln b a t = ln a b t := by
  have e1 : b.1 - a.1 ≠ 0 := by grind
  have e2 := slp_mul h
  have e3 : slp b a = slp a b := by
    unfold slp
    have : a.1 - b.1 ≠ 0 := by grind
    grind
  unfold ln
  rw [e3]
  grind
theorem ln_swp {a b : Kn} {t : Rat} (h : a.1 < b.1) (h2 : a.2 ≠ b.2) : ln (swp a) (swp b) (ln a b t) = t := by
  have e2 := slp_mul h
  have e1 : b.2 - a.2 ≠ 0 := by grind
  have e4 : b.1 - a.1 ≠ 0 := by grind
  have e3 : slp (swp a) (swp b) * (b.2 - a.2) = b.1 - a.1 := by
    unfold slp swp
    show (b.1 - a.1) / (b.2 - a.2) * (b.2 - a.2) = _
    rw [Rat.div_mul_cancel e1]
  have e5 : slp (swp a) (swp b) * slp a b = 1 := by
    have : (slp (swp a) (swp b) * slp a b - 1) * (b.1 - a.1) = 0 := by grind
    rcases Rat.mul_eq_zero.mp this with q | q
    · grind
    · exact absurd q e4
  unfold ln
  show a.1 + slp (swp a) (swp b) * (a.2 + slp a b * (t - a.1) - a.2) = t
  grind
/-- back again -/
theorem Turn.val {L U : Rat} {ks : List Kn} (h : Turn L U ks) {t : Rat} (t1 : L ≤ t) (t2 : t ≤ U) : valK (backK ks) (valK ks t) = t := by
  have g := h.good
  have hb := h.bk.1.good
  obtain ⟨p, hp, p1, p2, e⟩ := g.piece t1 t2
  have plt := pairs_lt g.inc hp
  rw [e]
  have hw : 0 < p.2.1 - p.1.1 := by grind
  have sm := slp_mul plt
  have l1 := ln_l (a := p.1) (b := p.2)
  have l2 := ln_r plt
  rcases h.kn with ⟨u, e1, e2⟩ | ⟨u, e1, e2⟩
  · have q := pairs_rel u hp
    have s0 : 0 < slp p.1 p.2 := pos_of_mul hw (by grind)
    have ee : backK ks = swapK ks := by
      unfold backK
      rw [e1, e2, if_neg (by have := g.lt; grind)]
    rw [ee] at hb ⊢
    have hm : (swp p.1, swp p.2) ∈ pairs (swapK ks) := by
      unfold swapK
      rw [pairs_map]
      exact List.mem_map.mpr ⟨p, hp, rfl⟩
    have m1 := ln_mono (a := p.1) (b := p.2) (s := t) (t := p.1.1) s0
    have m2 := ln_mono (a := p.1) (b := p.2) (s := p.2.1) (t := t) s0
    rw [val_piece hb.inc hm (show p.1.2 ≤ _ by grind) (show _ ≤ p.2.2 by grind)]
    exact ln_swp plt (by grind)
  · have q := pairs_rel u hp
    have s0 : slp p.1 p.2 < 0 := neg_of_mul hw (by grind)
    have ee : backK ks = (swapK ks).reverse := by
      unfold backK
      rw [e1, e2, if_pos g.lt]
    rw [ee] at hb ⊢
    have hm : (swp p.2, swp p.1) ∈ pairs (swapK ks).reverse := by
      refine pairs_rev (p := (swp p.1, swp p.2)) ?_
      unfold swapK
      rw [pairs_map]
      exact List.mem_map.mpr ⟨p, hp, rfl⟩
    have m1 := ln_anti (a := p.1) (b := p.2) (s := p.1.1) (t := t) s0
    have m2 := ln_anti (a := p.1) (b := p.2) (s := t) (t := p.2.1) s0
    rw [val_piece hb.inc hm (show p.2.2 ≤ _ by grind) (show _ ≤ p.1.2 by grind)]
    exact (ln_comm (a := swp p.2) (b := swp p.1) (show p.2.2 < p.1.2 from q)).symm.trans (ln_swp plt (by grind))
theorem Turn.val' {L U : Rat} {ks : List Kn} (h : Turn L U ks) {t : Rat} (t1 : L ≤ t) (t2 : t ≤ U) : valK ks (valK (backK ks) t) = t := by
  have := h.bk.1.val t1 t2
  rw [h.bk.2] at this
  exact this
theorem Turn.inj {L U : Rat} {ks : List Kn} (h : Turn L U ks) {s t : Rat} (s1 : L ≤ s) (s2 : s ≤ U) (t1 : L ≤ t) (t2 : t ≤ U) (e : valK ks s = valK ks t) : s = t := by
  rw [← h.val s1 s2, e, h.val t1 t2]
/-- rising or falling at the knots: so all along -/
theorem mono_val {σ : Rat} : ∀ (l : List Kn) (a : Kn) {s t : Rat}, Inc (a :: l) → (∀ p ∈ pairs (a :: l), σ * p.1.2 < σ * p.2.2) → a.1 ≤ s → s < t → t ≤ hiK (a :: l) → σ * valK (a :: l) s < σ * valK (a :: l) t
  | [], a, s, t, _, _, s1, st, t2 => by
    rw [hiK] at t2
    grind
  | b :: l, a, s, t, hi, hm, s1, st, t2 => by
    have hlt := hi.lt
    have hw : 0 < b.1 - a.1 := by grind
    have hab : σ * a.2 < σ * b.2 := hm (a, b) (by rw [pairs_cons]; exact List.mem_cons_self)
    have hrest : ∀ p ∈ pairs (b :: l), σ * p.1.2 < σ * p.2.2 := fun p hp => hm p (by rw [pairs_cons]; exact List.mem_cons_of_mem _ hp)
    rw [hiK_cons] at t2
    have sm := slp_mul hlt
    have s0 : 0 < σ * slp a b := pos_of_mul hw (by rw [Rat.mul_assoc, sm]; clear hm hrest; grind)
    clear hm
    have key : ∀ x y : Rat, x ≤ y → σ * ln a b x ≤ σ * ln a b y := by
      intro x y hxy
      unfold ln
      have := Rat.mul_le_mul_of_nonneg_left (show 0 ≤ y - x by grind) (Rat.le_of_lt s0)
      grind
    have key' : ∀ x y : Rat, x < y → σ * ln a b x < σ * ln a b y := by
      intro x y hxy
      unfold ln
      have := Rat.mul_pos s0 (show 0 < y - x by grind)
      grind
    rw [valK_2 hlt, valK_2 hlt]
    rcases rlt b.1 t with c | c
    · rw [if_pos c]
      rcases rlt b.1 s with d | d
      · rw [if_pos d]
        exact mono_val l b hi.tail hrest (Rat.le_of_lt d) st t2
      · rw [if_neg (by grind)]
        have h1 := key s b.1 d
        rw [ln_r hlt] at h1
        have h2 := mono_val l b hi.tail hrest (s := b.1) Rat.le_refl c t2
        rw [val_head hi.tail] at h2
        grind
    · rw [if_neg (by grind), if_neg (by grind)]
      exact key' s t st
theorem Turn.mono {L U : Rat} {ks : List Kn} (h : Turn L U ks) : (valK ks L = L ∧ valK ks U = U ∧ ∀ s t, L ≤ s → s < t → t ≤ U → valK ks s < valK ks t) ∨ (valK ks L = U ∧ valK ks U = L ∧ ∀ s t, L ≤ s → s < t → t ≤ U → valK ks t < valK ks s) := by
  have g := h.good
  have ends : valK ks L = loK (swapK ks) ∧ valK ks U = hiK (swapK ks) := by
    constructor
    · match ks, g with
      | a :: l, g => exact g.val_lo
    · obtain ⟨z, ez, zU, _⟩ := g.last
      have : hiK (swapK ks) = z.2 := by
        unfold swapK
        rw [hiK_lastK (z := swp z) (by rw [List.getLast?_map, ez]; rfl)]
        rfl
      rw [this, ← zU, val_mem g.inc g.len (List.mem_of_getLast? ez)]
  rw [ends.1, ends.2]
  match ks, g, h.kn with
  | [], g, _ => exact absurd rfl g.ne
  | a :: l, g, .inl ⟨u, e1, e2⟩ =>
    refine .inl ⟨e1, e2, fun s t s1 st t2 => ?_⟩
    have := mono_val (σ := 1) l a (s := s) (t := t) g.inc (fun p hp => by have := pairs_rel u hp; grind) (by rw [g.head]; exact s1) st (by rw [g.hi]; exact t2)
    grind
  | a :: l, g, .inr ⟨u, e1, e2⟩ =>
    refine .inr ⟨e1, e2, fun s t s1 st t2 => ?_⟩
    have := mono_val (σ := -1) l a (s := s) (t := t) g.inc (fun p hp => by have := pairs_rel u hp; grind) (by rw [g.head]; exact s1) st (by rw [g.hi]; exact t2)
    grind
theorem Turn.of_mono {L U : Rat} {ks : List Kn} (g : Good L U ks) (h : (valK ks L = L ∧ valK ks U = U ∧ ∀ s t, L ≤ s → s < t → t ≤ U → valK ks s < valK ks t) ∨ (valK ks L = U ∧ valK ks U = L ∧ ∀ s t, L ≤ s → s < t → t ≤ U → valK ks t < valK ks s)) : Turn L U ks := by
  have ends : valK ks L = loK (swapK ks) ∧ valK ks U = hiK (swapK ks) := by
    constructor
    · match ks, g with
      | a :: l, g => exact g.val_lo
    · obtain ⟨z, ez, zU, _⟩ := g.last
      have : hiK (swapK ks) = z.2 := by
        unfold swapK
        rw [hiK_lastK (z := swp z) (by rw [List.getLast?_map, ez]; rfl)]
        rfl
      rw [this, ← zU, val_mem g.inc g.len (List.mem_of_getLast? ez)]
  rw [ends.1, ends.2] at h
  refine ⟨g, ?_⟩
  rcases h with ⟨e1, e2, m⟩ | ⟨e1, e2, m⟩
  · refine .inl ⟨?_, e1, e2⟩
    refine List.Pairwise.imp_of_mem (R := fun a b : Kn => a.1 < b.1) (fun {a b} ha hb hab => ?_) g.inc
    have := m a.1 b.1 (g.le ha).1 hab (g.le hb).2
    rw [val_mem g.inc g.len ha, val_mem g.inc g.len hb] at this
    exact this
  · refine .inr ⟨?_, e1, e2⟩
    refine List.Pairwise.imp_of_mem (R := fun a b : Kn => a.1 < b.1) (fun {a b} ha hb hab => ?_) g.inc
    have := m a.1 b.1 (g.le ha).1 hab (g.le hb).2
    rw [val_mem g.inc g.len ha, val_mem g.inc g.len hb] at this
    exact this
theorem Turn.least {L U : Rat} {ks : List Kn} (h : Turn L U ks) : Turn L U (leastK ks) := by
  have m := h.mono
  refine .of_mono h.good.least ?_
  simp only [val_least h.good.inc]
  exact m
/-! ### maps put behind one another, by their values -/
def cmpK (f g : List Kn) : List Kn := leastK (behK f g)
def bkK (f : List Kn) : List Kn := leastK (backK f)
def aboutK (ks t : List Kn) : List Kn := cmpK (cmpK (bkK t) ks) t
section
variable {L U : Rat} {f g ks tk : List Kn} {t : Rat}
theorem good_cmp (hf : Good L U f) (hg : Good L U g) : Good L U (cmpK f g) := ((isBeh_behK hf hg).good hf hg).least
theorem val_cmp (hf : Good L U f) (hg : Good L U g) (t1 : L ≤ t) (t2 : t ≤ U) : valK (cmpK f g) t = valK g (valK f t) := by
  have b := isBeh_behK hf hg
  unfold cmpK
  rw [val_least b.inc, b.val hf hg t1 t2]
theorem Turn.bkT (h : Turn L U f) : Turn L U (bkK f) := h.bk.1.least
theorem Turn.b_v (h : Turn L U f) (t1 : L ≤ t) (t2 : t ≤ U) : valK (bkK f) (valK f t) = t := by
  unfold bkK
  rw [val_least h.bk.1.good.inc, h.val t1 t2]
theorem Turn.v_b (h : Turn L U f) (t1 : L ≤ t) (t2 : t ≤ U) : valK f (valK (bkK f) t) = t := by
  unfold bkK
  rw [val_least h.bk.1.good.inc, h.val' t1 t2]
theorem Turn.cmp (hf : Turn L U f) (hg : Turn L U g) : Turn L U (cmpK f g) := by
  have gf := hf.good
  have gg := hg.good
  have hlt := gf.lt
  refine .of_mono (good_cmp gf gg) ?_
  have lU : L ≤ U := Rat.le_of_lt hlt
  rw [val_cmp gf gg Rat.le_refl lU, val_cmp gf gg lU Rat.le_refl]
  have vv : ∀ s t, L ≤ s → s < t → t ≤ U → valK (cmpK f g) s = valK g (valK f s) ∧ valK (cmpK f g) t = valK g (valK f t) := fun s t s1 st t2 => ⟨val_cmp gf gg s1 (by grind), val_cmp gf gg (by grind) t2⟩
  have r : ∀ s, L ≤ s → s ≤ U → L ≤ valK f s ∧ valK f s ≤ U := fun s s1 s2 => gf.val s1 s2
  rcases hf.mono with ⟨a1, a2, a3⟩ | ⟨a1, a2, a3⟩ <;> rcases hg.mono with ⟨b1, b2, b3⟩ | ⟨b1, b2, b3⟩
  · refine .inl ⟨by rw [a1, b1], by rw [a2, b2], fun s t s1 st t2 => ?_⟩
    rw [(vv s t s1 st t2).1, (vv s t s1 st t2).2]
    exact b3 _ _ (r s s1 (by grind)).1 (a3 s t s1 st t2) (r t (by grind) t2).2
  · refine .inr ⟨by rw [a1, b1], by rw [a2, b2], fun s t s1 st t2 => ?_⟩
    rw [(vv s t s1 st t2).1, (vv s t s1 st t2).2]
    exact b3 _ _ (r s s1 (by grind)).1 (a3 s t s1 st t2) (r t (by grind) t2).2
  · refine .inr ⟨by rw [a1, b2], by rw [a2, b1], fun s t s1 st t2 => ?_⟩
    rw [(vv s t s1 st t2).1, (vv s t s1 st t2).2]
    exact b3 _ _ (r t (by grind) t2).1 (a3 s t s1 st t2) (r s s1 (by grind)).2
  · refine .inl ⟨by rw [a1, b2], by rw [a2, b1], fun s t s1 st t2 => ?_⟩
    rw [(vv s t s1 st t2).1, (vv s t s1 st t2).2]
    exact b3 _ _ (r t (by grind) t2).1 (a3 s t s1 st t2) (r s s1 (by grind)).2
theorem good_about (hk : Good L U ks) (ht : Turn L U tk) : Good L U (aboutK ks tk) := good_cmp (good_cmp ht.bkT.good hk) ht.good
theorem val_about (hk : Good L U ks) (ht : Turn L U tk) (t1 : L ≤ t) (t2 : t ≤ U) : valK (aboutK ks tk) t = valK tk (valK ks (valK (bkK tk) t)) := by
  unfold aboutK
  rw [val_cmp (good_cmp ht.bkT.good hk) ht.good t1 t2, val_cmp ht.bkT.good hk t1 t2]
theorem cmp_least : leastK (cmpK f g) = cmpK f g ∨ ¬ Inc (behK f g) := by
  by_cases h : Inc (behK f g)
  · exact .inl (least_least h)
  · exact .inr h
theorem least_cmp (hf : Good L U f) (hg : Good L U g) : leastK (cmpK f g) = cmpK f g := least_least (isBeh_behK hf hg).inc
end
/-! ### sizes, for two maps of the same kind -/
section
variable {L U : Rat} {one o ks : List Kn} {be N M : Nat}
theorem IsBeh.df2 (h1 : Good L U one) (p1 : PF be N one) (p2 : PF be M o) (hb : 0 < be) (hM : 1 ≤ M) {x : Rat} (hx : Bends one o x) : DF be (N * M) x := by
  rcases hx with hx | ⟨p, hp, k, hk, hy, rfl⟩
  · obtain ⟨k, hk, rfl⟩ := List.mem_map.mp hx
    exact (p1.kn k hk).1.mono (Nat.le_mul_of_pos_right N hM)
  · have plt := pairs_lt h1.inc hp
    obtain ⟨i1, i2, i3, i4⟩ := inv_ok plt hy
    show DF be (N * M) (inv p.1 p.2 k.1)
    obtain ⟨P, D, c, d0, dN, pN, e1, e2⟩ := p1.pc p hp
    have e3 := LF.line (N := N) (t := inv p.1 p.2 k.1) plt d0 hb e1 e2
    rw [i3] at e3
    obtain ⟨z, v, v0, v1, ez⟩ := (p2.kn k hk).1
    have P0 : P ≠ 0 := by
      intro hP
      subst hP
      have d0' := nat_ne d0
      have b0' := nat_ne hb
      have : (D : Rat) * be * (p.1.2 - p.2.2) = 0 := by grind
      have : p.1.2 = p.2.2 := by
        rcases Rat.mul_eq_zero.mp this with q | q
        · rcases Rat.mul_eq_zero.mp q with q | q
          · exact absurd q d0'
          · exact absurd q b0'
        · grind
      grind
    have key : ∀ w : Int, (D * z - c * v) = w → inv p.1 p.2 k.1 * ((be : Rat) * ((P : Rat) * (v : Rat))) = (w : Rat) := by
      intro w hw
      rw [← hw]
      simp only [Rat.intCast_sub, Rat.intCast_mul, Rat.intCast_natCast]
      grind
    have hle : P.natAbs * v ≤ N * M := Nat.mul_le_mul pN v1
    have hpos : 0 < P.natAbs * v := Nat.mul_pos (by omega) v0
    rcases Int.lt_or_gt_of_ne P0 with c' | c'
    · refine ⟨-(D * z - c * v), P.natAbs * v, hpos, hle, ?_⟩
      have e : ((P.natAbs * v : Nat) : Rat) = - ((P : Rat) * v) := by
        have : ((P.natAbs : Nat) : Int) = - P := by omega
        rw [Rat.natCast_mul, ← Rat.intCast_natCast (P.natAbs), this, Rat.intCast_neg]
        grind
      rw [e, Rat.intCast_neg, ← key _ rfl]
      grind
    · refine ⟨D * z - c * v, P.natAbs * v, hpos, hle, ?_⟩
      have e : ((P.natAbs * v : Nat) : Rat) = ((P : Rat) * v) := by
        have : ((P.natAbs : Nat) : Int) = P := by omega
        rw [Rat.natCast_mul, ← Rat.intCast_natCast (P.natAbs), this]
      rw [e, ← key _ rfl]
theorem IsBeh.dy2 (h1 : Good L U one) (h2 : Good L U o) (p1 : PF be N one) (p2 : PF be M o) (hb : 0 < be) (hN : 1 ≤ N) {x : Rat} (hx : Bends one o x) : DF be (N * M) (valK o (valK one x)) := by
  rcases hx with hx | ⟨p, hp, k, hk, hy, rfl⟩
  · obtain ⟨k, hk, rfl⟩ := List.mem_map.mp hx
    rw [val_mem h1.inc h1.len hk]
    have r := h1.rng k hk
    obtain ⟨q, hq, _, _, e⟩ := h2.piece r.1 r.2
    rw [e]
    exact DF.val hb (pairs_lt h2.inc hq) (p2.pc q hq) (p1.kn k hk).2
  · have plt := pairs_lt h1.inc hp
    obtain ⟨i1, i2, i3, i4⟩ := inv_ok plt hy
    have ev : valK one (inv p.1 p.2 k.1) = k.1 := by
      rw [val_piece h1.inc hp (Rat.le_of_lt i1) (Rat.le_of_lt i2), i3]
    show DF be (N * M) (valK o (valK one (inv p.1 p.2 k.1)))
    rw [ev, val_mem h2.inc h2.len hk]
    exact (p2.kn k hk).2.mono (Nat.le_mul_of_pos_left M hN)
theorem IsBeh.pf2 (h : IsBeh one o ks) (h1 : Good L U one) (h2 : Good L U o) (p1 : PF be N one) (p2 : PF be M o) (hb : 0 < be) (hN : 1 ≤ N) (hM : 1 ≤ M) : PF be (N * M) ks := by
  have g := h.good h1 h2
  have kn : ∀ k ∈ ks, DF be (N * M) k.1 ∧ DF be (N * M) k.2 := by
    intro k hk
    refine ⟨IsBeh.df2 h1 p1 p2 hb hM (h.bend hk), ?_⟩
    rw [h.ys k hk]
    exact IsBeh.dy2 h1 h2 p1 p2 hb hN (h.bend hk)
  refine ⟨kn, ?_⟩
  intro w hw
  have hlt := pairs_lt g.inc hw
  obtain ⟨p, hp, q1, q2, hc⟩ := h.pair h1 h2 hw
  have plt := pairs_lt h1.inc hp
  have y1 := h.ys _ (pairs_mem hw).1
  have y2 := h.ys _ (pairs_mem hw).2
  have v1 := val_piece h1.inc hp q1 (show w.1.1 ≤ p.2.1 by grind)
  have v2 := val_piece h1.inc hp (show p.1.1 ≤ w.2.1 by grind) q2
  rw [v1] at y1
  rw [v2] at y2
  rcases hc with c | ⟨c, q, hq, hr⟩
  · have k : ∀ s, ln p.1 p.2 s = p.1.2 := by
      intro s
      unfold ln
      rw [c]
      grind
    rw [k] at y1 y2
    obtain ⟨u, v, v0, vN, ev⟩ := (kn _ (pairs_mem hw).1).2
    refine ⟨0, v, u, v0, vN, by simp, ?_, ?_⟩
    · simp only [Rat.intCast_zero]
      grind
    · have : w.2.2 = w.1.2 := by rw [y1, y2]
      rw [this]
      simp only [Rat.intCast_zero]
      grind
  · have z1 := val_piece h2.inc hq (hr _ Rat.le_refl (Rat.le_of_lt hlt)).1 (hr _ Rat.le_refl (Rat.le_of_lt hlt)).2
    have z2 := val_piece h2.inc hq (hr _ (Rat.le_of_lt hlt) Rat.le_refl).1 (hr _ (Rat.le_of_lt hlt) Rat.le_refl).2
    rw [z1] at y1
    rw [z2] at y2
    have qlt := pairs_lt h2.inc hq
    obtain ⟨P, D, c1, d0, dN, pN, e1, e2⟩ := p1.pc p hp
    obtain ⟨P', D', c2, d0', dN', pN', f1, f2⟩ := p2.pc q hq
    refine ⟨P' * P, D * D', P' * c1 + c2 * D, Nat.mul_pos d0 d0', Nat.mul_le_mul dN dN', ?_, ?_, ?_⟩
    · rw [Int.natAbs_mul, Nat.mul_comm N M]
      exact Nat.mul_le_mul pN' pN
    · have a1 := LF.line (N := N) (t := w.1.1) plt d0 hb e1 e2
      have a2 := LF.line (N := M) (t := ln p.1 p.2 w.1.1) qlt d0' hb f1 f2
      rw [← y1] at a2
      simp only [Rat.intCast_add, Rat.intCast_mul, Rat.natCast_mul, Rat.intCast_natCast]
      grind
    · have a1 := LF.line (N := N) (t := w.2.1) plt d0 hb e1 e2
      have a2 := LF.line (N := M) (t := ln p.1 p.2 w.2.1) qlt d0' hb f1 f2
      rw [← y2] at a2
      simp only [Rat.intCast_add, Rat.intCast_mul, Rat.natCast_mul, Rat.intCast_natCast]
      grind
theorem LF.swp {a b : Kn} (hb : 0 < be) (h2 : a.2 ≠ b.2) (h : LF be N a b) : LF be N (swp a) (swp b) := by
  obtain ⟨P, D, c, d0, dN, pN, e1, e2⟩ := h
  have P0 : P ≠ 0 := by
    intro hP
    subst hP
    have d0' := nat_ne d0
    have b0' := nat_ne hb
    have : (D : Rat) * be * (a.2 - b.2) = 0 := by grind
    rcases Rat.mul_eq_zero.mp this with q | q
    · rcases Rat.mul_eq_zero.mp q with q | q
      · exact absurd q d0'
      · exact absurd q b0'
    · grind
  rcases Int.lt_or_gt_of_ne P0 with c' | c'
  · have e : ((P.natAbs : Nat) : Rat) = - (P : Rat) := by
      have : ((P.natAbs : Nat) : Int) = - P := by omega
      rw [← Rat.intCast_natCast (P.natAbs), this, Rat.intCast_neg]
    refine ⟨-(D : Int), P.natAbs, c, by omega, pN, by omega, ?_, ?_⟩
    · show ((P.natAbs : Nat) : Rat) * be * a.1 = ((-(D : Int) : Int) : Rat) * be * a.2 + c
      rw [e, Rat.intCast_neg, Rat.intCast_natCast]
      grind
    · show ((P.natAbs : Nat) : Rat) * be * b.1 = ((-(D : Int) : Int) : Rat) * be * b.2 + c
      rw [e, Rat.intCast_neg, Rat.intCast_natCast]
      grind
  · have e : ((P.natAbs : Nat) : Rat) = (P : Rat) := by
      have : ((P.natAbs : Nat) : Int) = P := by omega
      rw [← Rat.intCast_natCast (P.natAbs), this]
    refine ⟨(D : Int), P.natAbs, -c, by omega, pN, by omega, ?_, ?_⟩
    · show ((P.natAbs : Nat) : Rat) * be * a.1 = (((D : Int) : Int) : Rat) * be * a.2 + ((-c : Int) : Rat)
      rw [e, Rat.intCast_neg, Rat.intCast_natCast]
      grind
    · show ((P.natAbs : Nat) : Rat) * be * b.1 = (((D : Int) : Int) : Rat) * be * b.2 + ((-c : Int) : Rat)
      rw [e, Rat.intCast_neg, Rat.intCast_natCast]
      grind
theorem LF.comm {a b : Kn} (h : LF be N a b) : LF be N b a := by
  obtain ⟨P, D, c, d0, dN, pN, e1, e2⟩ := h
  exact ⟨P, D, c, d0, dN, pN, e2, e1⟩
theorem Turn.pf (h : Turn L U ks) (p : PF be N ks) (hb : 0 < be) : PF be N (backK ks) := by
  have ne : ∀ w ∈ pairs ks, w.1.2 ≠ w.2.2 := by
    intro w hw
    rcases h.kn with ⟨u, _⟩ | ⟨u, _⟩
    · have := pairs_rel u hw
      grind
    · have := pairs_rel u hw
      grind
  have a : PF be N (swapK ks) := by
    refine ⟨fun k hk => ?_, fun w hw => ?_⟩
    · obtain ⟨z, hz, rfl⟩ := List.mem_map.mp hk
      exact ⟨(p.kn z hz).2, (p.kn z hz).1⟩
    · unfold swapK at hw
      rw [pairs_map] at hw
      obtain ⟨z, hz, rfl⟩ := List.mem_map.mp hw
      exact LF.swp hb (ne z hz) (p.pc z hz)
  unfold backK
  split
  · refine ⟨fun k hk => a.kn k (List.mem_reverse.mp hk), fun w hw => ?_⟩
    exact (a.pc _ (pairs_rev' hw)).comm
  · exact a
end
/-- the size of a map: knots, slopes and how many -/
structure Ev (L U : Rat) (be : Nat) : Prop where
  b0 : 0 < be
  b1 : be ≤ 2 ^ 14
  l : -((2 : Rat) ^ 21) ≤ L
  u : U ≤ (2 : Rat) ^ 21
structure Fm (L U : Rat) (be n c : Nat) (ks : List Kn) : Prop where
  good : Good L U ks
  pf : PF be (2 ^ n) ks
  len : ks.length + 1 ≤ 2 ^ c
section
variable {L U : Rat} {one o ks : List Kn} {be n c n' c' : Nat}
theorem Fm.bd (h : Fm L U be n c ks) (e : Ev L U be) {k : Nat} (hk : 35 + n < k) : BdK k ks :=
  pf_bdk (n := n) h.good h.pf e.b0 e.b1 (Nat.le_refl _) e.l e.u k (by omega)
theorem Fm.beh (h : Fm L U be n c one) (h' : Fm L U be n' c' o) (e : Ev L U be) : Fm L U be (n + n') (c + c') (behK one o) := by
  have b := isBeh_behK h.good h'.good
  refine ⟨b.good h.good h'.good, ?_, ?_⟩
  · have := b.pf2 h.good h'.good h.pf h'.pf e.b0 (Nat.pow_pos (by decide)) (Nat.pow_pos (by decide))
    rw [Nat.pow_add]
    exact this
  · have h1 := behK_len (one := one) (o := o)
    have h2 := h.len
    have h3 := h'.len
    have h4 : one.length * (o.length + 1) ≤ one.length * 2 ^ c' := Nat.mul_le_mul_left _ h3
    have h5 : (one.length + 1) * 2 ^ c' ≤ 2 ^ c * 2 ^ c' := Nat.mul_le_mul_right _ h2
    have h6 : 0 < 2 ^ c' := Nat.pow_pos (by decide)
    rw [Nat.add_mul, Nat.one_mul] at h5
    rw [Nat.pow_add]
    omega
theorem Fm.least (h : Fm L U be n c ks) (e : Ev L U be) : Fm L U be n c (leastK ks) :=
  ⟨h.good.least, h.pf.least e.b0 h.good.inc, by have := leastK_le ks; have := h.len; omega⟩
theorem Fm.cmp (h : Fm L U be n c one) (h' : Fm L U be n' c' o) (e : Ev L U be) : Fm L U be (n + n') (c + c') (cmpK one o) := (h.beh h' e).least e
theorem Fm.back (h : Fm L U be n c ks) (ht : Turn L U ks) (e : Ev L U be) : Fm L U be n c (backK ks) := by
  refine ⟨ht.bk.1.good, ht.pf h.pf e.b0, ?_⟩
  have : (backK ks).length = ks.length := by
    unfold backK swapK
    split
    · rw [List.length_reverse, List.length_map]
    · rw [List.length_map]
  rw [this]
  exact h.len
theorem Fm.bk (h : Fm L U be n c ks) (ht : Turn L U ks) (e : Ev L U be) : Fm L U be n c (bkK ks) := (h.back ht e).least e
theorem Fm.about {tk : List Kn} (h : Fm L U be n c ks) (h' : Fm L U be n' c' tk) (ht : Turn L U tk) (e : Ev L U be) : Fm L U be (n' + n + n') (c' + c + c') (aboutK ks tk) := ((h'.bk ht e).cmp h e).cmp h' e
end
/-! ### maps and turns on a grid -/
theorem div_rng {z be : Int} (hb : 1 ≤ be) (hz : -2000000 ≤ z ∧ z ≤ 2000000) : -((2 : Rat) ^ 21) ≤ (z : Rat) / (be : Rat) ∧ (z : Rat) / (be : Rat) ≤ (2 : Rat) ^ 21 := by
  have hb' : (1 : Rat) ≤ (be : Rat) := by exact_mod_cast hb
  have n0 : (be : Rat) ≠ 0 := by grind
  have d : (z : Rat) / (be : Rat) * (be : Rat) = z := Rat.div_mul_cancel n0
  have p : (0 : Rat) ≤ (2 : Rat) ^ 21 := by decide +kernel
  have h1 : ((-2000000 : Int) : Rat) ≤ (z : Rat) := Rat.intCast_le_intCast.mpr hz.1
  have h2 : (z : Rat) ≤ ((2000000 : Int) : Rat) := Rat.intCast_le_intCast.mpr hz.2
  have c1 : (-((2 : Rat) ^ 21)) ≤ ((-2000000 : Int) : Rat) := by decide +kernel
  have c2 : ((2000000 : Int) : Rat) ≤ (2 : Rat) ^ 21 := by decide +kernel
  constructor
  · rcases rlt ((z : Rat) / (be : Rat)) (-((2 : Rat) ^ 21)) with q | q
    · have := Rat.mul_le_mul_of_nonneg_left hb' (show (0 : Rat) ≤ -((z : Rat) / (be : Rat)) by grind)
      grind
    · exact q
  · rcases rlt ((2 : Rat) ^ 21) ((z : Rat) / (be : Rat)) with q | q
    · have := Rat.mul_le_mul_of_nonneg_left hb' (show (0 : Rat) ≤ ((z : Rat) / (be : Rat)) by grind)
      grind
    · exact q
section
variable {g : Grid} {zs : List (Int × Int)}
theorem Grid.Ok.pos (h : g.Ok) : 1 ≤ (g.n : Int) * (g.b : Int) := by
  have := Int.mul_pos (show (0 : Int) < g.n by have := h.n0; omega) (show (0 : Int) < g.b by have := h.b0; omega)
  omega
theorem atG_lt (h : g.Ok) {i j : Int} (hij : i < j) : atG g i < atG g j := by
  unfold atG
  refine div_lt (by have := h.pos; omega) ?_
  have := Int.mul_lt_mul_of_pos_left hij (show 0 < g.l - g.f by have := h.l0; omega)
  omega
theorem atG_le (h : g.Ok) {i j : Int} (hij : i ≤ j) : atG g i ≤ atG g j := by
  rcases Int.lt_or_eq_of_le hij with q | q
  · exact Rat.le_of_lt (atG_lt h q)
  · rw [q]; exact Rat.le_refl
theorem num_rng (h : g.Ok) {k : Int} (hk : 0 ≤ k ∧ k ≤ (g.n : Int)) : -2000 ≤ g.f * g.n + (g.l - g.f) * k ∧ g.f * g.n + (g.l - g.f) * k ≤ 2000 := by
  have h1 := h.f0
  have h2 := h.l0
  have h3 := h.n0
  have a1 : g.f * g.n ≤ 600 := by
    have := Int.mul_le_mul_of_nonneg_right h1.2 (show (0 : Int) ≤ g.n by omega)
    omega
  have a2 : -600 ≤ g.f * g.n := by
    have := Int.mul_le_mul_of_nonneg_right h1.1 (show (0 : Int) ≤ g.n by omega)
    omega
  have a3 : 0 ≤ (g.l - g.f) * k := Int.mul_nonneg (by omega) hk.1
  have a4 : (g.l - g.f) * k ≤ 9 * k := Int.mul_le_mul_of_nonneg_right (by omega) hk.1
  omega
theorem Grid.Ok.ev (h : g.Ok) : Ev (atG g 0) (atG g g.n) (g.n * g.b) := by
  have hn := h.n0
  have hb := h.b0
  refine ⟨Nat.mul_pos (by omega) (by omega), ?_, ?_, ?_⟩
  · have := Nat.mul_le_mul hn.2 hb.2
    omega
  · refine (div_rng h.pos ?_).1
    have := num_rng h (k := 0) (by omega)
    omega
  · refine (div_rng h.pos ?_).2
    have := num_rng h (k := g.n) (by omega)
    omega
theorem gkn_len : (gkn g zs).length = zs.length := by unfold gkn; exact List.length_map _
theorem GZ.ne (h : GZ g zs) : zs ≠ [] := by
  intro e
  have := h.len
  rw [e] at this
  simp at this
theorem GZ.good (hg : g.Ok) (h : GZ g zs) : Good (atG g 0) (atG g g.n) (gkn g zs) := by
  have ne := h.ne
  refine ⟨by rw [gkn_len]; exact h.len, ?_, ?_, ?_, ?_⟩
  · have := h.up
    rw [List.pairwise_map] at this
    unfold Inc gkn
    rw [List.pairwise_map]
    exact this.imp fun hab => atG_lt hg hab
  · have := h.h0
    cases zs with
    | nil => exact absurd rfl ne
    | cons z l =>
      simp at this
      show atG g z.1 = _
      rw [this]
  · have := h.hL
    rw [List.getLast?_map, List.getLast?_eq_some_getLast ne] at this
    simp at this
    rw [hiK_lastK (z := (atG g (zs.getLast ne).1, atG g (zs.getLast ne).2)) (by unfold gkn; rw [List.getLast?_map, List.getLast?_eq_some_getLast ne]; rfl), this]
  · intro k hk
    obtain ⟨z, hz, rfl⟩ := List.mem_map.mp hk
    have := (h.rng z hz).2
    exact ⟨atG_le hg this.1, atG_le hg this.2⟩
theorem atG_div (g : Grid) (k : Int) : atG g k = ((g.f * g.n + (g.l - g.f) * k : Int) : Rat) / (((g.n * g.b : Nat) : Int) : Rat) := by
  unfold atG
  rw [Int.natCast_mul]
theorem GZ.fm (hg : g.Ok) (h : GZ g zs) {c : Nat} (hl : zs.length + 1 ≤ 2 ^ c) : Fm (atG g 0) (atG g g.n) (g.n * g.b) 12 c (gkn g zs) := by
  have gd := h.good hg
  have hb := hg.ev.b0
  refine ⟨gd, ⟨fun k hk => ?_, fun p hp => ?_⟩, by rw [gkn_len]; exact hl⟩
  · obtain ⟨z, hz, rfl⟩ := List.mem_map.mp hk
    show DF _ _ (atG g z.1) ∧ DF _ _ (atG g z.2)
    rw [atG_div, atG_div]
    exact ⟨(df_div hb).mono (by decide), (df_div hb).mono (by decide)⟩
  · have plt := pairs_lt gd.inc hp
    obtain ⟨z, hz, e1⟩ := List.mem_map.mp (pairs_mem hp).1
    obtain ⟨w, hw, e2⟩ := List.mem_map.mp (pairs_mem hp).2
    have r1 := h.rng z hz
    have r2 := h.rng w hw
    have n1 := num_rng hg r1.1
    have n2 := num_rng hg r1.2
    have n3 := num_rng hg r2.1
    have n4 := num_rng hg r2.2
    exact lf_of hb (by rw [← e1]; exact atG_div g z.1) (by rw [← e1]; exact atG_div g z.2) (by rw [← e2]; exact atG_div g w.1) (by rw [← e2]; exact atG_div g w.2) plt (by omega) (by omega)
structure TZ (g : Grid) (zs : List (Int × Int)) : Prop where
  gz : GZ g zs
  tn : ((zs.map (·.2)).Pairwise (fun a b => a < b) ∧ (zs.map (·.2)).head? = some 0 ∧ (zs.map (·.2)).getLast? = some (g.n : Int)) ∨ ((zs.map (·.2)).Pairwise (fun a b => b < a) ∧ (zs.map (·.2)).head? = some (g.n : Int) ∧ (zs.map (·.2)).getLast? = some 0)
theorem TZ.turn (hg : g.Ok) (h : TZ g zs) : Turn (atG g 0) (atG g g.n) (gkn g zs) := by
  have ne := h.gz.ne
  have lo : ∀ v : Int, (zs.map (·.2)).head? = some v → loK (swapK (gkn g zs)) = atG g v := by
    intro v hv
    cases zs with
    | nil => exact absurd rfl ne
    | cons z l =>
      simp at hv
      show atG g z.2 = _
      rw [hv]
  have hi : ∀ v : Int, (zs.map (·.2)).getLast? = some v → hiK (swapK (gkn g zs)) = atG g v := by
    intro v hv
    rw [List.getLast?_map, List.getLast?_eq_some_getLast ne] at hv
    simp at hv
    rw [hiK_lastK (z := (atG g (zs.getLast ne).2, atG g (zs.getLast ne).1)) (by unfold swapK gkn; rw [List.getLast?_map, List.getLast?_map, List.getLast?_eq_some_getLast ne]; rfl), hv]
  refine ⟨h.gz.good hg, ?_⟩
  rcases h.tn with ⟨u, e1, e2⟩ | ⟨u, e1, e2⟩
  · refine .inl ⟨?_, lo _ e1, hi _ e2⟩
    rw [List.pairwise_map] at u
    unfold Up gkn
    rw [List.pairwise_map]
    exact u.imp fun hab => atG_lt hg hab
  · refine .inr ⟨?_, lo _ e1, hi _ e2⟩
    rw [List.pairwise_map] at u
    unfold Dn gkn
    rw [List.pairwise_map]
    exact u.imp fun hab => atG_lt hg hab
end
/-! ### is it a turn -/
def isT (ks : List Kn) : Bool := if loK (swapK ks) = loK ks ∧ hiK (swapK ks) = hiK ks then decide (∀ p ∈ pairs ks, p.1.2 < p.2.2) else decide (loK (swapK ks) = hiK ks ∧ hiK (swapK ks) = loK ks) && decide (∀ p ∈ pairs ks, p.2.2 < p.1.2)
theorem Turn.isT {L U : Rat} {ks : List Kn} (h : Turn L U ks) : isT ks = true := by
  have g := h.good
  have hlt := g.lt
  unfold DL.isT
  rw [g.lo, g.hi]
  rcases h.kn with ⟨u, e1, e2⟩ | ⟨u, e1, e2⟩
  · rw [if_pos ⟨e1, e2⟩, decide_eq_true_eq]
    exact fun p hp => pairs_rel u hp
  · rw [if_neg (by rw [e1, e2]; grind), Bool.and_eq_true, decide_eq_true_eq, decide_eq_true_eq]
    exact ⟨⟨e1, e2⟩, fun p hp => pairs_rel u hp⟩
theorem stays_turn {L U : Rat} (h : L < U) : Turn L U [(L, L), (U, U)] := by
  refine ⟨good_id h, .inl ⟨?_, rfl, by unfold swapK; rw [List.map_cons, List.map_cons, hiK_cons]; rfl⟩⟩
  exact List.pairwise_cons.mpr ⟨fun x hx => by simp at hx; subst hx; exact h, by simp⟩
theorem flip_turn {L U : Rat} (h : L < U) : Turn L U [(L, U), (U, L)] := by
  refine ⟨⟨by simp, List.pairwise_cons.mpr ⟨fun x hx => by simp at hx; subst hx; exact h, by simp⟩, rfl, by rw [hiK_cons, hiK], fun k hk => ?_⟩, .inr ⟨?_, rfl, by unfold swapK; rw [List.map_cons, List.map_cons, hiK_cons]; rfl⟩⟩
  · simp at hk
    rcases hk with rfl | rfl
    · exact ⟨Rat.le_of_lt h, Rat.le_refl⟩
    · exact ⟨Rat.le_refl, Rat.le_of_lt h⟩
  · exact List.pairwise_cons.mpr ⟨fun x hx => by simp at hx; subst hx; exact h, by simp⟩

/-! ### what a map makes of a stretch -/
theorem mnmx_le : ∀ (l : List Rat) (s : Kn), s.1 ≤ s.2 → ((l.foldl mnmx s).1 ≤ s.1 ∧ s.2 ≤ (l.foldl mnmx s).2) ∧ ∀ x ∈ l, (l.foldl mnmx s).1 ≤ x ∧ x ≤ (l.foldl mnmx s).2
  | [], s, _ => ⟨⟨Rat.le_refl, Rat.le_refl⟩, by simp⟩
  | x :: l, s, h => by
    rw [List.foldl_cons]
    have hm : (mnmx s x).1 ≤ s.1 ∧ (mnmx s x).1 ≤ x ∧ s.2 ≤ (mnmx s x).2 ∧ x ≤ (mnmx s x).2 := by
      unfold mnmx
      dsimp only
      split <;> split <;> grind
    have ih := mnmx_le l (mnmx s x) (by grind)
    refine ⟨⟨by grind, by grind⟩, fun y hy => ?_⟩
    rcases List.mem_cons.mp hy with rfl | hy
    · constructor <;> grind
    · exact ih.2 y hy
theorem mnmx_mem : ∀ (l : List Rat) (s : Kn), ((l.foldl mnmx s).1 = s.1 ∨ (l.foldl mnmx s).1 ∈ l) ∧ ((l.foldl mnmx s).2 = s.2 ∨ (l.foldl mnmx s).2 ∈ l)
  | [], s => ⟨.inl rfl, .inl rfl⟩
  | x :: l, s => by
    rw [List.foldl_cons]
    have ih := mnmx_mem l (mnmx s x)
    have h1 : (mnmx s x).1 = x ∨ (mnmx s x).1 = s.1 := by
      unfold mnmx
      dsimp only
      split
      · exact .inl rfl
      · exact .inr rfl
    have h2 : (mnmx s x).2 = x ∨ (mnmx s x).2 = s.2 := by
      unfold mnmx
      dsimp only
      split
      · exact .inl rfl
      · exact .inr rfl
    constructor
    · rcases ih.1 with h | h
      · rcases h1 with e | e
        · right; rw [h, e]; exact List.mem_cons_self
        · left; rw [h, e]
      · right; exact List.mem_cons_of_mem _ h
    · rcases ih.2 with h | h
      · rcases h2 with e | e
        · right; rw [h, e]; exact List.mem_cons_self
        · left; rw [h, e]
      · right; exact List.mem_cons_of_mem _ h
/-- the values that count -/
def rangeL (ks : List Kn) (a b : Rat) : List Rat := valK ks a :: valK ks b :: insideK ks a b
theorem range_ok (ks : List Kn) (a b : Rat) : (rangeK ks a b).1 ∈ rangeL ks a b ∧ (rangeK ks a b).2 ∈ rangeL ks a b ∧ ∀ x ∈ rangeL ks a b, (rangeK ks a b).1 ≤ x ∧ x ≤ (rangeK ks a b).2 := by
  unfold rangeK rangeL
  have h1 := mnmx_le (insideK ks a b ++ [valK ks b]) (valK ks a, valK ks a) Rat.le_refl
  have h2 := mnmx_mem (insideK ks a b ++ [valK ks b]) (valK ks a, valK ks a)
  generalize (insideK ks a b ++ [valK ks b]).foldl mnmx (valK ks a, valK ks a) = s at h1 h2
  have m : ∀ x, x ∈ insideK ks a b ++ [valK ks b] ↔ x = valK ks b ∨ x ∈ insideK ks a b := by
    intro x
    rw [List.mem_append, List.mem_singleton]
    exact Or.comm
  refine ⟨?_, ?_, fun x hx => ?_⟩
  · rcases h2.1 with h | h
    · rw [h]; simp
    · rw [m] at h
      simp only [List.mem_cons]
      exact .inr h
  · rcases h2.2 with h | h
    · rw [h]; simp
    · rw [m] at h
      simp only [List.mem_cons]
      exact .inr h
  · simp only [List.mem_cons] at hx
    rcases hx with rfl | hx
    · exact h1.1
    · exact h1.2 x ((m x).mpr hx)
/-- least and greatest of a row, told by its sorted row -/
theorem range_sorted {ks : List Kn} {a b : Rat} {ys : List Rat} (hp : ys.Pairwise fun x y => x < y) (hm : ∀ x, x ∈ ys ↔ x ∈ rangeL ks a b) : ys.head? = some (rangeK ks a b).1 ∧ ys.getLast? = some (rangeK ks a b).2 := by
  obtain ⟨r1, r2, r3⟩ := range_ok ks a b
  have h1 := (hm _).mpr r1
  have h2 := (hm _).mpr r2
  have hne : ys ≠ [] := by
    intro e
    rw [e] at h1
    simp at h1
  constructor
  · match ys, hne, hp, h1, hm with
    | y :: l, _, hp, h1, hm =>
      rcases List.mem_cons.mp h1 with e | e
      · rw [e]; rfl
      · have := (List.pairwise_cons.mp hp).1 _ e
        have := (r3 y ((hm y).mp List.mem_cons_self)).1
        grind
  · obtain ⟨zs, z, rfl⟩ : ∃ zs z, ys = zs ++ [z] := ⟨ys.dropLast, ys.getLast hne, (List.dropLast_concat_getLast hne).symm⟩
    rw [List.getLast?_append]
    rcases List.mem_append.mp h2 with e | e
    · have := (List.pairwise_append.mp hp).2.2 _ e z (by simp)
      have := (r3 z ((hm z).mp (by simp))).2
      grind
    · simp at e
      rw [e]; rfl
section
variable {L U : Rat} {ks : List Kn} {a b : Rat}
theorem rangeL_val (g : Good L U ks) (ha : L ≤ a) (hab : a ≤ b) (hb : b ≤ U) {x : Rat} (hx : x ∈ rangeL ks a b) : ∃ t, a ≤ t ∧ t ≤ b ∧ x = valK ks t := by
  unfold rangeL insideK at hx
  simp only [List.mem_cons, List.mem_map, List.mem_filter, Bool.and_eq_true, decide_eq_true_eq] at hx
  rcases hx with rfl | rfl | ⟨k, ⟨hk, k1, k2⟩, rfl⟩
  · exact ⟨a, Rat.le_refl, hab, rfl⟩
  · exact ⟨b, hab, Rat.le_refl, rfl⟩
  · exact ⟨k.1, Rat.le_of_lt k1, Rat.le_of_lt k2, (val_mem g.inc g.len hk).symm⟩
theorem range_rng (g : Good L U ks) (ha : L ≤ a) (hab : a ≤ b) (hb : b ≤ U) : L ≤ (rangeK ks a b).1 ∧ (rangeK ks a b).1 ≤ (rangeK ks a b).2 ∧ (rangeK ks a b).2 ≤ U := by
  obtain ⟨r1, r2, r3⟩ := range_ok ks a b
  obtain ⟨t, t1, t2, e⟩ := rangeL_val g ha hab hb r1
  obtain ⟨s, s1, s2, e'⟩ := rangeL_val g ha hab hb r2
  have v1 := g.val (t := t) (by grind) (by grind)
  have v2 := g.val (t := s) (by grind) (by grind)
  have := (r3 _ r1).2
  refine ⟨by grind, this, by grind⟩
theorem range_val (g : Good L U ks) (ha : L ≤ a) (hab : a ≤ b) (hb : b ≤ U) {t : Rat} (t1 : a ≤ t) (t2 : t ≤ b) : (rangeK ks a b).1 ≤ valK ks t ∧ valK ks t ≤ (rangeK ks a b).2 := by
  obtain ⟨_, _, r3⟩ := range_ok ks a b
  have ma := r3 (valK ks a) (by unfold rangeL; simp)
  have mb := r3 (valK ks b) (by unfold rangeL; simp)
  have mk : ∀ k ∈ ks, a < k.1 → k.1 < b → (rangeK ks a b).1 ≤ k.2 ∧ k.2 ≤ (rangeK ks a b).2 := by
    intro k hk k1 k2
    refine r3 k.2 ?_
    unfold rangeL insideK
    simp only [List.mem_cons, List.mem_map, List.mem_filter, Bool.and_eq_true, decide_eq_true_eq]
    exact .inr (.inr ⟨k, ⟨hk, k1, k2⟩, rfl⟩)
  obtain ⟨p, hp, p1, p2, e⟩ := g.piece (t := t) (by grind) (by grind)
  have plt := pairs_lt g.inc hp
  have hp1 := (pairs_mem hp).1
  have hp2 := (pairs_mem hp).2
  have v1 : ∀ s, p.1.1 ≤ s → s ≤ p.2.1 → valK ks s = ln p.1 p.2 s := fun s s1 s2 => val_piece g.inc hp s1 s2
  -- the piece of the stretch: from u to v
  obtain ⟨u, u0, u1, u2, ur⟩ : ∃ u, a ≤ u ∧ p.1.1 ≤ u ∧ u ≤ t ∧ ((rangeK ks a b).1 ≤ ln p.1 p.2 u ∧ ln p.1 p.2 u ≤ (rangeK ks a b).2) := by
    rcases rlt a p.1.1 with c | c
    · rcases rlt p.1.1 b with d | d
      · refine ⟨p.1.1, Rat.le_of_lt c, Rat.le_refl, p1, ?_⟩
        rw [ln_l]
        exact mk p.1 hp1 c d
      · have et : t = b := by grind
        refine ⟨t, t1, p1, Rat.le_refl, ?_⟩
        rw [← e, et]
        exact mb
    · refine ⟨a, Rat.le_refl, c, t1, ?_⟩
      rw [← v1 a c (by grind)]
      exact ma
  obtain ⟨v, w0, w1, w2, wr⟩ : ∃ v, v ≤ b ∧ v ≤ p.2.1 ∧ t ≤ v ∧ ((rangeK ks a b).1 ≤ ln p.1 p.2 v ∧ ln p.1 p.2 v ≤ (rangeK ks a b).2) := by
    rcases rlt p.2.1 b with c | c
    · rcases rlt a p.2.1 with d | d
      · refine ⟨p.2.1, Rat.le_of_lt c, Rat.le_refl, p2, ?_⟩
        rw [ln_r plt]
        exact mk p.2 hp2 d c
      · have et : t = a := by grind
        refine ⟨t, t2, p2, Rat.le_refl, ?_⟩
        rw [← e, et]
        exact ma
    · refine ⟨b, Rat.le_refl, c, t2, ?_⟩
      rw [← v1 b (by grind) c]
      exact mb
  rw [e]
  rcases rlt 0 (slp p.1 p.2) with c | c
  · have m1 := ln_mono (a := p.1) (b := p.2) (s := t) (t := u) c
    have m2 := ln_mono (a := p.1) (b := p.2) (s := v) (t := t) c
    constructor <;> grind
  · by_cases c0 : slp p.1 p.2 = 0
    · have k : ∀ s, ln p.1 p.2 s = p.1.2 := by
        intro s
        unfold ln
        rw [c0]
        grind
      rw [k] at ur ⊢
      exact ur
    · have c' : slp p.1 p.2 < 0 := by grind
      have m1 := ln_anti (a := p.1) (b := p.2) (s := u) (t := t) c'
      have m2 := ln_anti (a := p.1) (b := p.2) (s := t) (t := v) c'
      constructor <;> grind
/-- of a stretch within a stretch -/
theorem range_mono (g : Good L U ks) {c d : Rat} (hc : L ≤ c) (hca : c ≤ a) (hab : a ≤ b) (hbd : b ≤ d) (hd : d ≤ U) : (rangeK ks c d).1 ≤ (rangeK ks a b).1 ∧ (rangeK ks a b).2 ≤ (rangeK ks c d).2 := by
  obtain ⟨r1, r2, _⟩ := range_ok ks a b
  obtain ⟨t, t1, t2, e⟩ := rangeL_val g (by grind) hab (by grind) r1
  obtain ⟨s, s1, s2, e'⟩ := rangeL_val g (by grind) hab (by grind) r2
  have h1 := range_val g hc (show c ≤ d by grind) hd (t := t) (by grind) (by grind)
  have h2 := range_val g hc (show c ≤ d by grind) hd (t := s) (by grind) (by grind)
  rw [e, e']
  exact ⟨h1.1, h2.2⟩
end
/-- a stretch with ends of known fineness -/
structure Stz (L U : Rat) (be V : Nat) (w : Kn) : Prop where
  lo : L ≤ w.1
  le : w.1 ≤ w.2
  hi : w.2 ≤ U
  d1 : DF be V w.1
  d2 : DF be V w.2
theorem Stz.mono {L U : Rat} {be V W : Nat} {w : Kn} (h : Stz L U be V w) (hv : V ≤ W) : Stz L U be W w := ⟨h.lo, h.le, h.hi, h.d1.mono hv, h.d2.mono hv⟩
theorem Stz.range {L U : Rat} {be V N : Nat} {ks : List Kn} {w : Kn} (g : Good L U ks) (p : PF be N ks) (hb : 0 < be) (hV : 1 ≤ V) (h : Stz L U be V w) : Stz L U be (V * N) (rangeK ks w.1 w.2) := by
  obtain ⟨r1, r2, _⟩ := range_ok ks w.1 w.2
  have rr := range_rng g h.lo h.le h.hi
  have hv : ∀ t, L ≤ t → t ≤ U → DF be V t → DF be (V * N) (valK ks t) := by
    intro t t1 t2 ht
    obtain ⟨q, hq, _, _, e⟩ := g.piece t1 t2
    rw [e]
    exact DF.val hb (pairs_lt g.inc hq) (p.pc q hq) ht
  have key : ∀ x ∈ rangeL ks w.1 w.2, DF be (V * N) x := by
    intro x hx
    unfold rangeL insideK at hx
    simp only [List.mem_cons, List.mem_map, List.mem_filter, Bool.and_eq_true, decide_eq_true_eq] at hx
    rcases hx with rfl | rfl | ⟨k, ⟨hk, _, _⟩, rfl⟩
    · exact hv _ h.lo (by have := h.le; have := h.hi; grind) h.d1
    · exact hv _ (by have := h.le; have := h.lo; grind) h.hi h.d2
    · exact (p.kn k hk).2.mono (Nat.le_mul_of_pos_left N hV)
  exact ⟨rr.1, rr.2.1, rr.2.2, key _ r1, key _ r2⟩
theorem Stz.bd {L U : Rat} {be v k : Nat} {w : Kn} (h : Stz L U be (2 ^ v) w) (e : Ev L U be) (hk : 35 + v < k) : Bd k w.1 ∧ Bd k w.2 := by
  have h1 := h.lo
  have h2 := h.le
  have h3 := h.hi
  have h4 := e.l
  have h5 := e.u
  exact ⟨h.d1.bd (r := 21) e.b0 e.b1 (Nat.le_refl _) (by grind) (by grind) (by omega), h.d2.bd (r := 21) e.b0 e.b1 (Nat.le_refl _) (by grind) (by grind) (by omega)⟩
/-! ### ways: stretch by stretch -/
inductive Way where
  | rnd (found : List Kn) (at_ : Nat)
  | opn (found : List Kn)
def Way.row : Way → List Kn
  | .rnd l _ => l
  | .opn l => l
def wayD : Way → D
  | .rnd l k => .tup [.str "round", mapD l, .int k]
  | .opn l => .tup [.str "open", mapD l]
def wayP : Way → PyData
  | .rnd l k => .tuple [.str "round", .tuple (l.map knP), .int k]
  | .opn l => .tuple [.str "open", .tuple (l.map knP)]
def way (F : Kn → Kn) : Nat → List Kn → Kn → Way
  | 0, found, _ => .opn found
  | n + 1, found, b => if b ∈ found then .rnd found (found.idxOf b) else way F n (found ++ [b]) (F b)
theorem way_py (m : Mu) (w : Way) : DL.py m deep (wayD w) = some (wayP w) := by
  cases w with
  | rnd l k =>
    have h := enc_map.py m 11 l (by decide)
    show DL.py m (11 + 1) (.tup [.str "round", mapD l, .int k]) = _
    refine py_tup ?_
    have hs : DL.py m 11 (.str "round") = some (.str "round") := by
      show (if PyData.strOk "round" = true then some (PyData.str "round") else none) = _
      rw [if_pos (by decide +kernel)]
    have hi : ∀ i : Int, DL.py m 11 (.int i) = some (.int i) := fun i => rfl
    simp only [pyAll, h, hs, hi]
  | opn l =>
    have h := enc_map.py m 11 l (by decide)
    show DL.py m (11 + 1) (.tup [.str "open", mapD l]) = _
    refine py_tup ?_
    have hs : DL.py m 11 (.str "open") = some (.str "open") := by
      show (if PyData.strOk "open" = true then some (PyData.str "open") else none) = _
      rw [if_pos (by decide +kernel)]
    have hi : ∀ i : Int, DL.py m 11 (.int i) = some (.int i) := fun i => rfl
    simp only [pyAll, h, hs, hi]
theorem way_eqv (w : Way) : PyData.eqv (wayP w) (wayP w) = true := by
  cases w with
  | rnd l k =>
    have h := enc_map.eqv l l
    simp only [decide_true] at h
    show PyData.eqv (.tuple [.str "round", .tuple (l.map knP), .int k]) (.tuple [.str "round", .tuple (l.map knP), .int k]) = true
    rw [PyData.eqv, PyData.eqvAll, PyData.eqvAll, PyData.eqvAll, PyData.eqvAll, h]
    simp [PyData.eqv]
  | opn l =>
    have h := enc_map.eqv l l
    simp only [decide_true] at h
    show PyData.eqv (.tuple [.str "open", .tuple (l.map knP)]) (.tuple [.str "open", .tuple (l.map knP)]) = true
    rw [PyData.eqv, PyData.eqvAll, PyData.eqvAll, PyData.eqvAll, h]
    simp [PyData.eqv]
theorem way_ne {w : Way} {m : Mu} {R : DK} (hR : R (.bl false) m) : gNe (wayD w) (wayD w) m R :=
  gNe_of (way_py m w) (way_py m w) (by rw [way_eqv]; exact hR)
/-! ### stretches within stretches -/
def itF (F : Kn → Kn) (w : Kn) : Nat → Kn
  | 0 => w
  | n + 1 => F (itF F w n)
def chain (F : Kn → Kn) (w : Kn) (i : Nat) : List Kn := (List.range (i + 1)).map (itF F w)
theorem chain_succ {F : Kn → Kn} {w : Kn} {i : Nat} : chain F w (i + 1) = chain F w i ++ [itF F w (i + 1)] := by
  unfold chain
  rw [List.range_succ, List.map_append]
  rfl
theorem chain_last {F : Kn → Kn} {w : Kn} {i : Nat} : (chain F w i).getLast? = some (itF F w i) := by
  unfold chain
  rw [List.range_succ, List.map_append, List.getLast?_append]
  rfl
theorem chain_mem {F : Kn → Kn} {w b : Kn} {i : Nat} : b ∈ chain F w i ↔ ∃ t, t ≤ i ∧ itF F w t = b := by
  unfold chain
  rw [List.mem_map]
  constructor
  · rintro ⟨t, ht, e⟩
    rw [List.mem_range] at ht
    exact ⟨t, by omega, e⟩
  · rintro ⟨t, ht, e⟩
    exact ⟨t, by rw [List.mem_range]; omega, e⟩
structure Stp (F : Kn → Kn) (w : Kn) (n i : Nat) : Prop where
  le : i ≤ n
  ne : ∀ t, t < i → itF F w (t + 1) ≠ itF F w t
  st : i = n ∨ itF F w (i + 1) = itF F w i
theorem Stp.uniq {F : Kn → Kn} {w : Kn} {n i j : Nat} (h : Stp F w n i) (h' : Stp F w n j) : i = j := by
  rcases Nat.lt_trichotomy i j with c | c | c
  · rcases h.st with e | e
    · have := h'.le
      omega
    · exact absurd e (h'.ne i c)
  · exact c
  · rcases h'.st with e | e
    · have := h.le
      omega
    · exact absurd e (h.ne j c)
def Nst (F : Kn → Kn) (w : Kn) : Prop := ∀ t, (itF F w t).1 ≤ (itF F w (t + 1)).1 ∧ (itF F w (t + 1)).2 ≤ (itF F w t).2
theorem Nst.le {F : Kn → Kn} {w : Kn} (h : Nst F w) (s : Nat) : ∀ d, (itF F w s).1 ≤ (itF F w (s + d)).1 ∧ (itF F w (s + d)).2 ≤ (itF F w s).2
  | 0 => ⟨Rat.le_refl, Rat.le_refl⟩
  | d + 1 => by
    have h1 := h.le s d
    have h2 := h (s + d)
    rw [show s + (d + 1) = s + d + 1 by omega]
    constructor <;> grind
theorem Nst.same {F : Kn → Kn} {w : Kn} (h : Nst F w) {i : Nat} (hm : itF F w (i + 1) ∈ chain F w i) : itF F w (i + 1) = itF F w i := by
  obtain ⟨t, ht, e⟩ := chain_mem.mp hm
  have h1 := h.le t (i - t)
  rw [show t + (i - t) = i by omega, e] at h1
  have h2 := h i
  exact Prod.ext (by grind) (by grind)
theorem way_row {F : Kn → Kn} {w : Kn} (h : Nst F w) (n : Nat) : ∀ (k i : Nat), k + i = n → (∀ t, t < i → itF F w (t + 1) ≠ itF F w t) → ∃ j, Stp F w n j ∧ (way F k (chain F w i) (itF F w (i + 1))).row = chain F w j
  | 0, i, hk, hne => ⟨i, ⟨by omega, hne, .inl (by omega)⟩, rfl⟩
  | k + 1, i, hk, hne => by
    rw [way]
    by_cases c : itF F w (i + 1) ∈ chain F w i
    · rw [if_pos c]
      exact ⟨i, ⟨by omega, hne, .inr (h.same c)⟩, rfl⟩
    · rw [if_neg c]
      have := way_row h n k (i + 1) (by omega) (fun t ht => by
        by_cases e : t = i
        · subst e
          intro e2
          exact c (by rw [e2]; exact chain_mem.mpr ⟨t, Nat.le_refl _, rfl⟩)
        · exact hne t (by omega))
      rw [chain_succ] at this
      exact this
theorem nst_range {L U : Rat} {ks : List Kn} (g : Good L U ks) : Nst (fun s => rangeK ks s.1 s.2) (L, U) ∧ ∀ t, L ≤ (itF (fun s => rangeK ks s.1 s.2) (L, U) t).1 ∧ (itF (fun s => rangeK ks s.1 s.2) (L, U) t).1 ≤ (itF (fun s => rangeK ks s.1 s.2) (L, U) t).2 ∧ (itF (fun s => rangeK ks s.1 s.2) (L, U) t).2 ≤ U := by
  have rg : ∀ t, L ≤ (itF (fun s => rangeK ks s.1 s.2) (L, U) t).1 ∧ (itF (fun s => rangeK ks s.1 s.2) (L, U) t).1 ≤ (itF (fun s => rangeK ks s.1 s.2) (L, U) t).2 ∧ (itF (fun s => rangeK ks s.1 s.2) (L, U) t).2 ≤ U := by
    intro t
    induction t with
    | zero => exact ⟨Rat.le_refl, Rat.le_of_lt g.lt, Rat.le_refl⟩
    | succ t ih => exact range_rng g ih.1 ih.2.1 ih.2.2
  refine ⟨fun t => ?_, rg⟩
  induction t with
  | zero =>
    have := rg 1
    exact ⟨this.1, this.2.2⟩
  | succ t ih =>
    have r := rg t
    have r1 := rg (t + 1)
    exact range_mono g r.1 ih.1 r1.2.1 ih.2 r.2.2
theorem stz_it {L U : Rat} {be N : Nat} {ks : List Kn} {w : Kn} {V : Nat} (g : Good L U ks) (p : PF be N ks) (hb : 0 < be) (hV : 1 ≤ V) (hN : 1 ≤ N) (h : Stz L U be V w) : ∀ t, Stz L U be (V * N ^ t) (itF (fun s => rangeK ks s.1 s.2) w t)
  | 0 => by rw [Nat.pow_zero, Nat.mul_one]; exact h
  | t + 1 => by
    have := (stz_it g p hb hV hN h t).range g p hb (Nat.mul_pos hV (Nat.pow_pos hN))
    rw [Nat.pow_succ, ← Nat.mul_assoc]
    exact this
/-- a map on a grid: its slopes are of few figures -/
theorem GZ.fm7 {g : Grid} {zs : List (Int × Int)} (hg : g.Ok) (h : GZ g zs) {c : Nat} (hl : zs.length + 1 ≤ 2 ^ c) : Fm (atG g 0) (atG g g.n) (g.n * g.b) 7 c (gkn g zs) := by
  have f := h.fm hg hl
  have gd := f.good
  have hb := hg.ev.b0
  refine ⟨gd, ⟨fun k hk => ?_, fun p hp => ?_⟩, f.len⟩
  · obtain ⟨z, hz, rfl⟩ := List.mem_map.mp hk
    show DF _ _ (atG g z.1) ∧ DF _ _ (atG g z.2)
    rw [atG_div, atG_div]
    exact ⟨(df_div hb).mono (by decide), (df_div hb).mono (by decide)⟩
  · have plt := pairs_lt gd.inc hp
    obtain ⟨z, hz, e1⟩ := List.mem_map.mp (pairs_mem hp).1
    obtain ⟨w, hw, e2⟩ := List.mem_map.mp (pairs_mem hp).2
    have r1 := h.rng z hz
    have r2 := h.rng w hw
    have hn := hg.n0
    have zw : z.1 < w.1 := by
      rcases Int.lt_or_le z.1 w.1 with q | q
      · exact q
      · have := atG_le hg q
        rw [← e1, ← e2] at plt
        have plt' : atG g z.1 < atG g w.1 := plt
        grind
    have h0 : ((g.n * g.b : Nat) : Rat) ≠ 0 := nat_ne hb
    have at_ : ∀ k : Int, ((g.n * g.b : Nat) : Rat) * atG g k = ((g.f * g.n + (g.l - g.f) * k : Int) : Rat) := by
      intro k
      rw [atG_div, Rat.intCast_natCast, Rat.mul_comm, Rat.div_mul_cancel h0]
    have hD : (((w.1 - z.1).toNat : Nat) : Rat) = (w.1 : Rat) - (z.1 : Rat) := by
      rw [← Rat.intCast_natCast, Int.toNat_of_nonneg (by omega), Rat.intCast_sub]
    rw [← e1, ← e2]
    refine ⟨w.2 - z.2, (w.1 - z.1).toNat, (w.1 - z.1) * (g.f * g.n + (g.l - g.f) * z.2) - (w.2 - z.2) * (g.f * g.n + (g.l - g.f) * z.1), by omega, by omega, by omega, ?_, ?_⟩
    · show _ * ((g.n * g.b : Nat) : Rat) * atG g z.2 = _ * ((g.n * g.b : Nat) : Rat) * atG g z.1 + _
      rw [Rat.mul_assoc, Rat.mul_assoc, at_, at_, hD]
      simp only [Rat.intCast_sub, Rat.intCast_mul, Rat.intCast_add]
      grind
    · show _ * ((g.n * g.b : Nat) : Rat) * atG g w.2 = _ * ((g.n * g.b : Nat) : Rat) * atG g w.1 + _
      rw [Rat.mul_assoc, Rat.mul_assoc, at_, at_, hD]
      simp only [Rat.intCast_sub, Rat.intCast_mul, Rat.intCast_add]
      grind
theorem idx_find {ps : List Kn} {b : Kn} (h : b ∈ ps) : (ps.map knP).findIdx? (fun z => PyData.eqv z (knP b)) = some (ps.idxOf b) := by
  induction ps with
  | nil => simp at h
  | cons p ps ih =>
    rw [List.map_cons, List.findIdx?_cons, enc_kn.eqv, List.idxOf_cons]
    by_cases c : p = b
    · subst c
      simp
    · have hb : (p == b) = false := by simpa using c
      rw [decide_eq_false c, hb]
      rcases List.mem_cons.mp h with e | h'
      · exact absurd e.symm c
      · rw [ih h']
        simp
/-- a way told, as the law tells it -/
def spWayD : DSp := fun ds m R _ => ∃ (ks : List Kn) (w : Kn) (n : Nat) (L U : Rat) (be c v : Nat), ds = [mapD ks, fr w.1, fr w.2, .int n] ∧ Ev L U be ∧ Fm L U be 7 c ks ∧ c ≤ 9 ∧ Stz L U be (2 ^ v) w ∧ n ≤ 100 ∧ v + 7 * n ≤ 350 ∧ ∀ W : Way, W = way (fun s => rangeK ks s.1 s.2) n [w] (rangeK ks w.1 w.2) → R (wayD W) m

/-! ### a map turned about, told point by point -/
theorem refine_val {L U : Rat} {M K0 : List Kn} (hM : Good L U M) (hK : Good L U K0) (hv : ∀ k ∈ M, k.2 = valK K0 k.1) (hs : ∀ k ∈ K0, k.1 ∈ M.map (·.1)) {t : Rat} (t1 : L ≤ t) (t2 : t ≤ U) : valK M t = valK K0 t := by
  obtain ⟨p, hp, p1, p2, e⟩ := hM.piece t1 t2
  have plt := pairs_lt hM.inc hp
  have m1 := (pairs_mem hp).1
  have m2 := (pairs_mem hp).2
  have r1 := hM.le m1
  have r2 := hM.le m2
  obtain ⟨q, hq, q1, q2⟩ := piece_of hK.inc hK.len (u := p.1.1) (v := p.2.1) (by rw [hK.lo]; exact r1.1) (Rat.le_of_lt plt) (by rw [hK.hi]; exact r2.2) (fun k hk => by
    obtain ⟨c, hc, ec⟩ := List.mem_map.mp (hs k hk)
    have := pairs_amid hM.inc hp hc
    rw [ec] at this
    exact this)
  have qlt := pairs_lt hK.inc hq
  have v1 := hv _ m1
  have v2 := hv _ m2
  rw [val_piece hK.inc hq q1 (by grind)] at v1
  rw [val_piece hK.inc hq (by grind) q2] at v2
  rw [e, val_piece hK.inc hq (by grind) (by grind)]
  have := ln_affine (A := slp q.1 q.2) (B := q.1.2 - slp q.1 q.2 * q.1.1) (t := t) plt (by rw [v1]; unfold ln; grind) (by rw [v2]; unfold ln; grind)
  rw [this]
  unfold ln
  grind
def ptIn (y : Rat) (p : Kn × Kn) : Bool := decide (p.1.2 ≠ p.2.2) && (decide (0 ≤ (y - p.1.2) / (p.2.2 - p.1.2)) && decide ((y - p.1.2) / (p.2.2 - p.1.2) ≤ 1))
def ptAt (y : Rat) (p : Kn × Kn) : Rat := p.1.1 + (y - p.1.2) / (p.2.2 - p.1.2) * (p.2.1 - p.1.1)
def ptsK (ks : List Kn) (y : Rat) : List Rat := ((pairs ks).filter (ptIn y)).map (ptAt y)
theorem pts_rng {L U : Rat} {ks : List Kn} (g : Good L U ks) {y x : Rat} (hx : x ∈ ptsK ks y) : (L ≤ x ∧ x ≤ U) ∧ valK ks x = y := by
  obtain ⟨p, hp, rfl⟩ := List.mem_map.mp hx
  rw [List.mem_filter] at hp
  obtain ⟨hp, hc⟩ := hp
  unfold ptIn at hc
  simp only [Bool.and_eq_true, decide_eq_true_eq] at hc
  obtain ⟨c0, c1, c2⟩ := hc
  have plt := pairs_lt g.inc hp
  have r1 := g.le (pairs_mem hp).1
  have r2 := g.le (pairs_mem hp).2
  have hd : (y - p.1.2) / (p.2.2 - p.1.2) * (p.2.2 - p.1.2) = y - p.1.2 := Rat.div_mul_cancel (by grind)
  unfold ptAt
  generalize (y - p.1.2) / (p.2.2 - p.1.2) = s at *
  have hw : 0 < p.2.1 - p.1.1 := by grind
  have e1 := Rat.mul_nonneg c1 (Rat.le_of_lt hw)
  have e2 := Rat.mul_nonneg (show 0 ≤ 1 - s by grind) (Rat.le_of_lt hw)
  have b1 : p.1.1 ≤ p.1.1 + s * (p.2.1 - p.1.1) := by grind
  have b2 : p.1.1 + s * (p.2.1 - p.1.1) ≤ p.2.1 := by grind
  refine ⟨⟨by grind, by grind⟩, ?_⟩
  rw [val_piece g.inc hp b1 b2]
  have e := slp_mul plt
  unfold ln
  have : slp p.1 p.2 * (p.1.1 + s * (p.2.1 - p.1.1) - p.1.1) = s * (slp p.1 p.2 * (p.2.1 - p.1.1)) := by grind
  rw [this, e, hd]
  grind
theorem pts_mem {L U : Rat} {ks : List Kn} (g : Good L U ks) {y t : Rat} {q : Kn × Kn} (hq : q ∈ pairs ks) (q1 : q.1.1 ≤ t) (q2 : t ≤ q.2.1) (hn : q.1.2 ≠ q.2.2) (e : ln q.1 q.2 t = y) : t ∈ ptsK ks y := by
  have qlt := pairs_lt g.inc hq
  have hw : 0 < q.2.1 - q.1.1 := by grind
  have sm := slp_mul qlt
  have hd : q.2.2 - q.1.2 ≠ 0 := by grind
  have hs : (y - q.1.2) / (q.2.2 - q.1.2) = (t - q.1.1) / (q.2.1 - q.1.1) := by
    rw [← e]
    unfold ln slp
    have : q.2.1 - q.1.1 ≠ 0 := by grind
    grind
  have hd2 : (t - q.1.1) / (q.2.1 - q.1.1) * (q.2.1 - q.1.1) = t - q.1.1 := Rat.div_mul_cancel (by grind)
  refine List.mem_map.mpr ⟨q, List.mem_filter.mpr ⟨hq, ?_⟩, ?_⟩
  · unfold ptIn
    simp only [Bool.and_eq_true, decide_eq_true_eq]
    rw [hs]
    generalize (t - q.1.1) / (q.2.1 - q.1.1) = s at hd2
    refine ⟨hn, ?_, ?_⟩
    · rcases rlt s 0 with c | c
      · have := Rat.mul_pos (show 0 < -s by grind) hw
        grind
      · exact c
    · rcases rlt 1 s with c | c
      · have := Rat.mul_pos (show 0 < s - 1 by grind) hw
        grind
      · exact c
  · unfold ptAt
    rw [hs, hd2]
    grind
def abPts (ks tk : List Kn) : List Rat := ks.map (·.1) ++ tk.map (·.1) ++ (tk.map fun k => ptsK ks k.1).flatten
theorem ab_rng {L U : Rat} {ks tk : List Kn} (g : Good L U ks) (g' : Good L U tk) {p : Rat} (hp : p ∈ abPts ks tk) : L ≤ p ∧ p ≤ U := by
  unfold abPts at hp
  rcases List.mem_append.mp hp with hp | hp
  · rcases List.mem_append.mp hp with hp | hp
    · obtain ⟨k, hk, rfl⟩ := List.mem_map.mp hp
      exact g.le hk
    · obtain ⟨k, hk, rfl⟩ := List.mem_map.mp hp
      exact g'.le hk
  · obtain ⟨l, hl, hp⟩ := List.mem_flatten.mp hp
    obtain ⟨k, hk, rfl⟩ := List.mem_map.mp hl
    exact (pts_rng g hp).1
theorem bk_mono {L U : Rat} {tk : List Kn} (T : Turn L U tk) {a b x : Rat} (a1 : L ≤ a) (ab : a ≤ b) (b1 : b ≤ U) (x1 : L ≤ x) (x2 : x ≤ U) (h : (valK tk a ≤ x ∧ x ≤ valK tk b) ∨ (valK tk b ≤ x ∧ x ≤ valK tk a)) : a ≤ valK (bkK tk) x ∧ valK (bkK tk) x ≤ b := by
  have r := T.bkT.good.val x1 x2
  have e := T.v_b x1 x2
  generalize valK (bkK tk) x = y at *
  rcases T.mono with ⟨m1, m2, m3⟩ | ⟨m1, m2, m3⟩
  · have k : ∀ s t, L ≤ s → t ≤ U → s < t → ¬ valK tk t ≤ valK tk s := fun s t s1 t2 st h => by have := m3 s t s1 st t2; grind
    constructor
    · rcases rlt y a with c | c
      · have := m3 y a r.1 c (by grind)
        rcases h with h | h
        · grind
        · have : valK tk a ≤ valK tk b := by
            rcases rlt a b with d | d
            · have := m3 a b a1 d b1; grind
            · have : a = b := by grind
              rw [this]; exact Rat.le_refl
          grind
      · exact c
    · rcases rlt b y with c | c
      · have := m3 b y (by grind) c r.2
        rcases h with h | h
        · grind
        · have : valK tk a ≤ valK tk b := by
            rcases rlt a b with d | d
            · have := m3 a b a1 d b1; grind
            · have : a = b := by grind
              rw [this]; exact Rat.le_refl
          grind
      · exact c
  · constructor
    · rcases rlt y a with c | c
      · have := m3 y a r.1 c (by grind)
        rcases h with h | h
        · have : valK tk b ≤ valK tk a := by
            rcases rlt a b with d | d
            · have := m3 a b a1 d b1; grind
            · have : a = b := by grind
              rw [this]; exact Rat.le_refl
          grind
        · grind
      · exact c
    · rcases rlt b y with c | c
      · have := m3 b y (by grind) c r.2
        rcases h with h | h
        · have : valK tk b ≤ valK tk a := by
            rcases rlt a b with d | d
            · have := m3 a b a1 d b1; grind
            · have : a = b := by grind
              rw [this]; exact Rat.le_refl
          grind
        · grind
      · exact c
/-- every knot of the map turned about comes of one of the points -/
theorem about_knot {L U : Rat} {ks tk : List Kn} (g : Good L U ks) (T : Turn L U tk) {x : Rat} (hx : Bends (cmpK (bkK tk) ks) tk x) : ∃ p ∈ abPts ks tk, valK tk p = x := by
  have gt := T.good
  have gb := T.bkT.good
  have gc := good_cmp gb g
  have xr := hx.rng gc
  rcases hx with hx | ⟨p, hp, k, hk, hy, rfl⟩
  · -- a knot of the first
    obtain ⟨c, hc, rfl⟩ := List.mem_map.mp hx
    have hc' : c ∈ behK (bkK tk) ks := (leastK_sub _).subset hc
    have hb := (isBeh_behK gb g).bend hc'
    rcases hb with hb | ⟨p, hp, k, hk, hy, e⟩
    · obtain ⟨d, hd, e⟩ := List.mem_map.mp hb
      have hd' : d ∈ backK tk := (leastK_sub _).subset hd
      have hd2 : d ∈ swapK tk := by
        unfold backK at hd'
        split at hd'
        · exact List.mem_reverse.mp hd'
        · exact hd'
      obtain ⟨z, hz, ez⟩ := List.mem_map.mp hd2
      refine ⟨z.1, ?_, ?_⟩
      · unfold abPts
        exact List.mem_append_left _ (List.mem_append_right _ (List.mem_map_of_mem hz))
      · rw [val_mem gt.inc gt.len hz, ← e, ← ez]
        rfl
    · have plt := pairs_lt gb.inc hp
      obtain ⟨i1, i2, i3, _⟩ := inv_ok plt hy
      have ev : valK (bkK tk) c.1 = k.1 := by
        rw [e]
        show valK (bkK tk) (inv p.1 p.2 k.1) = k.1
        rw [val_piece gb.inc hp (Rat.le_of_lt i1) (Rat.le_of_lt i2), i3]
      refine ⟨k.1, ?_, ?_⟩
      · unfold abPts
        exact List.mem_append_left _ (List.mem_append_left _ (List.mem_map_of_mem hk))
      · rw [← ev, T.v_b xr.1 xr.2]
  · have plt := pairs_lt gc.inc hp
    obtain ⟨i1, i2, i3, i4⟩ := inv_ok plt hy
    change L ≤ inv p.1 p.2 k.1 ∧ inv p.1 p.2 k.1 ≤ U at xr
    show ∃ z ∈ abPts ks tk, valK tk z = inv p.1 p.2 k.1
    have ev : valK (cmpK (bkK tk) ks) (inv p.1 p.2 k.1) = k.1 := by
      rw [val_piece gc.inc hp (Rat.le_of_lt i1) (Rat.le_of_lt i2), i3]
    rw [val_cmp gb g xr.1 xr.2] at ev
    have yr := gb.val xr.1 xr.2
    have ty := T.v_b xr.1 xr.2
    refine ⟨valK (bkK tk) (inv p.1 p.2 k.1), ?_, ty⟩
    obtain ⟨q, hq, q1, q2, e⟩ := g.piece yr.1 yr.2
    have qlt := pairs_lt g.inc hq
    have hend : ∀ z ∈ ks, z.1 = valK (bkK tk) (inv p.1 p.2 k.1) → valK (bkK tk) (inv p.1 p.2 k.1) ∈ abPts ks tk := by
      intro z hz ez
      rw [← ez]
      unfold abPts
      exact List.mem_append_left _ (List.mem_append_left _ (List.mem_map_of_mem hz))
    by_cases fl : q.1.2 = q.2.2
    · by_cases e1 : q.1.1 = valK (bkK tk) (inv p.1 p.2 k.1)
      · exact hend q.1 (pairs_mem hq).1 e1
      · by_cases e2 : q.2.1 = valK (bkK tk) (inv p.1 p.2 k.1)
        · exact hend q.2 (pairs_mem hq).2 e2
        · exfalso
          have l1 := g.le (pairs_mem hq).1
          have l2 := g.le (pairs_mem hq).2
          have flat : ∀ s, q.1.1 ≤ s → s ≤ q.2.1 → valK ks s = q.1.2 := by
            intro s s1 s2
            rw [val_piece g.inc hq s1 s2]
            have : slp q.1 q.2 = 0 := by
              unfold slp
              rw [fl]
              grind
            unfold ln
            rw [this]
            grind
          have ev2 := flat _ q1 q2
          rw [ev] at ev2
          -- another point with the same value
          have key : ∀ x', inv p.1 p.2 k.1 < x' → x' ≤ p.2.1 → x' ≤ U → ((valK tk q.1.1 ≤ x' ∧ x' ≤ valK tk q.2.1) ∨ (valK tk q.2.1 ≤ x' ∧ x' ≤ valK tk q.1.1)) → False := by
            intro x' h1 h2 h3 h4
            have b := bk_mono T l1.1 (Rat.le_of_lt qlt) l2.2 (x := x') (by grind) h3 h4
            have f := flat _ b.1 b.2
            have vc := val_cmp gb g (t := x') (by grind) h3
            rw [f, val_piece gc.inc hp (by grind) h2, ← ev2, ← i3] at vc
            have := ln_inj i4 vc
            grind
          have pU := (gc.le (pairs_mem hp).2).2
          rcases T.mono with ⟨m1, m2, m3⟩ | ⟨m1, m2, m3⟩
          · have a1 := m3 q.1.1 (valK (bkK tk) (inv p.1 p.2 k.1)) l1.1 (by grind) yr.2
            have a2 := m3 (valK (bkK tk) (inv p.1 p.2 k.1)) q.2.1 yr.1 (by grind) l2.2
            rw [ty] at a1 a2
            rcases rlt (valK tk q.2.1) p.2.1 with c | c
            · exact key (valK tk q.2.1) a2 (Rat.le_of_lt c) (by grind) (.inl ⟨by grind, Rat.le_refl⟩)
            · exact key p.2.1 i2 Rat.le_refl pU (.inl ⟨by grind, c⟩)
          · have a1 := m3 q.1.1 (valK (bkK tk) (inv p.1 p.2 k.1)) l1.1 (by grind) yr.2
            have a2 := m3 (valK (bkK tk) (inv p.1 p.2 k.1)) q.2.1 yr.1 (by grind) l2.2
            rw [ty] at a1 a2
            rcases rlt (valK tk q.1.1) p.2.1 with c | c
            · exact key (valK tk q.1.1) a1 (Rat.le_of_lt c) (by grind) (.inr ⟨by grind, Rat.le_refl⟩)
            · exact key p.2.1 i2 Rat.le_refl pU (.inr ⟨by grind, c⟩)
    · have := pts_mem (y := k.1) g hq q1 q2 fl (by rw [← e]; exact ev)
      unfold abPts
      refine List.mem_append_right _ (List.mem_flatten.mpr ⟨_, List.mem_map.mpr ⟨k, hk, rfl⟩, this⟩)
def aboutF (ks tk : List Kn) (x : Rat) : Rat := valK tk (valK ks (valK (bkK tk) x))
theorem about_sorted {L U : Rat} {ks tk : List Kn} (g : Good L U ks) (T : Turn L U tk) {ys : List Rat} (hp : ys.Pairwise fun a b => a < b) (hm : ∀ x, x ∈ ys ↔ ∃ p ∈ abPts ks tk, valK tk p = x) :
    Good L U (ys.map fun x => (x, aboutF ks tk x)) ∧ leastK (ys.map fun x => (x, aboutF ks tk x)) = aboutK ks tk := by
  have gt := T.good
  have lU := gt.lt
  have ga := good_about g T
  have yr : ∀ x ∈ ys, L ≤ x ∧ x ≤ U := by
    intro x hx
    obtain ⟨p, hp, rfl⟩ := (hm x).mp hx
    have := ab_rng g gt hp
    exact gt.val this.1 this.2
  have hL : ∀ z, z = L ∨ z = U → z ∈ tk.map (·.1) := by
    intro z hz
    rcases hz with rfl | rfl
    · obtain ⟨k, hk, e⟩ := loK_mem gt.ne
      exact List.mem_map.mpr ⟨k, hk, by rw [e]; exact gt.lo⟩
    · obtain ⟨k, hk, e⟩ := hiK_mem gt.ne
      exact List.mem_map.mpr ⟨k, hk, by rw [e]; exact gt.hi⟩
  have hin : ∀ z, z = L ∨ z = U → valK tk z ∈ ys := fun z hz => (hm _).mpr ⟨z, by
    unfold abPts
    exact List.mem_append_left _ (List.mem_append_right _ (hL z hz)), rfl⟩
  have hLU : L ∈ ys ∧ U ∈ ys := by
    have a := hin L (.inl rfl)
    have b := hin U (.inr rfl)
    rcases T.mono with ⟨m1, m2, _⟩ | ⟨m1, m2, _⟩
    · rw [m1] at a; rw [m2] at b; exact ⟨a, b⟩
    · rw [m1] at a; rw [m2] at b; exact ⟨b, a⟩
  have hinc : Inc (ys.map fun x => (x, aboutF ks tk x)) := by
    unfold Inc
    rw [List.pairwise_map]
    exact hp
  have hfst : (ys.map fun x => (x, aboutF ks tk x)).map (·.1) = ys := by
    rw [List.map_map]
    exact List.map_id _
  have hne : ys.map (fun x => (x, aboutF ks tk x)) ≠ [] := by
    intro e
    have : ys = [] := List.map_eq_nil_iff.mp e
    rw [this] at hLU
    simp at hLU
  have gM : Good L U (ys.map fun x => (x, aboutF ks tk x)) := by
    refine ⟨?_, hinc, ?_, ?_, ?_⟩
    · rw [List.length_map]
      match ys, hLU with
      | [], h => simp at h
      | [a], h =>
        simp at h
        grind
      | a :: b :: l, _ => simp
    · obtain ⟨k, hk, e⟩ := loK_mem hne
      have h1 := loK_le hinc (List.mem_map_of_mem hLU.1 (f := fun x => (x, aboutF ks tk x)))
      obtain ⟨x, hx, rfl⟩ := List.mem_map.mp hk
      have h2 := (yr x hx).1
      change x = loK _ at e
      change loK _ ≤ L at h1
      grind
    · obtain ⟨k, hk, e⟩ := hiK_mem hne
      have h1 := le_hiK hinc (List.mem_map_of_mem hLU.2 (f := fun x => (x, aboutF ks tk x)))
      obtain ⟨x, hx, rfl⟩ := List.mem_map.mp hk
      have h2 := (yr x hx).2
      change x = hiK _ at e
      change U ≤ hiK _ at h1
      grind
    · intro k hk
      obtain ⟨x, hx, rfl⟩ := List.mem_map.mp hk
      have r := yr x hx
      have r1 := T.bkT.good.val r.1 r.2
      have r2 := g.val r1.1 r1.2
      exact gt.val r2.1 r2.2
  refine ⟨gM, ?_⟩
  have hl : leastK (aboutK ks tk) = aboutK ks tk := least_cmp (good_cmp T.bkT.good g) gt
  rw [← hl]
  refine least_uniq gM ga fun t t1 t2 => refine_val gM ga ?_ ?_ t1 t2
  · intro k hk
    obtain ⟨x, hx, rfl⟩ := List.mem_map.mp hk
    have r := yr x hx
    show aboutF ks tk x = valK (aboutK ks tk) x
    rw [val_about g T r.1 r.2]
    rfl
  · intro k hk
    rw [hfst, hm]
    have hk' : k ∈ behK (cmpK (bkK tk) ks) tk := (leastK_sub _).subset hk
    exact about_knot g T ((isBeh_behK (good_cmp T.bkT.good g) gt).bend hk')
/-- the knots ahead of a point -/
theorem ahead_split : ∀ {ks : List Kn} {p : Rat}, Inc ks → ks.takeWhile (fun k => decide (k.1 < p)) = ks.filter (fun k => decide (k.1 < p))
  | [], p, _ => rfl
  | k :: ks, p, h => by
    have ih := ahead_split (p := p) h.tail
    by_cases c : k.1 < p
    · rw [List.takeWhile_cons, List.filter_cons, decide_eq_true c, if_pos rfl, if_pos rfl, ih]
    · rw [List.takeWhile_cons, List.filter_cons, decide_eq_false c, if_neg (by decide), if_neg (by decide)]
      symm
      rw [List.filter_eq_nil_iff]
      intro x hx
      have := (List.pairwise_cons.mp h).1 x hx
      rw [decide_eq_true_eq]
      grind
theorem amid_of {L U : Rat} {ks : List Kn} {p : Rat} (g : Good L U ks) (p1 : L < p) (p2 : p < U) (hp : p ∉ ks.map (·.1)) :
    ∃ l1 f s l2, ks = l1 ++ f :: s :: l2 ∧ ks.filter (fun k => decide (k.1 < p)) = l1 ++ [f] ∧ Amid f (p, valK ks p) s := by
  have hs := ahead_split (p := p) g.inc
  have ht : ks.takeWhile (fun k => decide (k.1 < p)) ++ ks.dropWhile (fun k => decide (k.1 < p)) = ks := List.takeWhile_append_dropWhile
  have hne : ks.filter (fun k => decide (k.1 < p)) ≠ [] := by
    obtain ⟨a, _, ma, aL, _⟩ := g.headD
    intro e
    have : a ∈ ks.filter (fun k => decide (k.1 < p)) := List.mem_filter.mpr ⟨ma, by rw [decide_eq_true_eq, aL]; exact p1⟩
    rw [e] at this
    simp at this
  obtain ⟨l1, f, hf⟩ : ∃ l1 f, ks.filter (fun k => decide (k.1 < p)) = l1 ++ [f] := ⟨_, _, (List.dropLast_concat_getLast hne).symm⟩
  have hdn : ks.dropWhile (fun k => decide (k.1 < p)) ≠ [] := by
    intro e
    rw [e, List.append_nil, hs] at ht
    obtain ⟨z, gz, zU, _⟩ := g.last
    have : z ∈ ks.filter (fun k => decide (k.1 < p)) := by
      rw [ht]
      exact List.mem_of_getLast? gz
    rw [List.mem_filter, decide_eq_true_eq, zU] at this
    have := this.2
    grind
  obtain ⟨s, l2, hd⟩ : ∃ s l2, ks.dropWhile (fun k => decide (k.1 < p)) = s :: l2 := by
    cases e : ks.dropWhile (fun k => decide (k.1 < p)) with
    | nil => exact absurd e hdn
    | cons s l2 => exact ⟨s, l2, rfl⟩
  have e : ks = l1 ++ f :: s :: l2 := by
    rw [← ht, hs, hf, hd]
    simp
  have hfp : f.1 < p := by
    have : f ∈ ks.filter (fun k => decide (k.1 < p)) := by rw [hf]; simp
    rw [List.mem_filter, decide_eq_true_eq] at this
    exact this.2
  have hsp : p < s.1 := by
    have h1 : ¬ s.1 < p := by
      have := List.head_dropWhile_not (fun k : Kn => decide (k.1 < p)) hdn
      simp only [hd, List.head_cons, decide_eq_false_iff_not] at this
      exact this
    have h2 : s.1 ≠ p := by
      intro q
      apply hp
      rw [e]
      simp [q]
    grind
  have hi := g.inc
  refine ⟨l1, f, s, l2, e, hf, hfp, hsp, ?_⟩
  have hi2 : Inc (l1 ++ f :: s :: l2) := by rw [← e]; exact hi
  have := val_amid l1 hi2 hfp (Rat.le_of_lt hsp)
  rw [← e] at this
  exact this
theorem turn_amid {L U p v : Rat} {l1 l2 : List Kn} {f s : Kn} (h : Turn L U (l1 ++ f :: s :: l2)) (am : Amid f (p, v) s) (hv : L ≤ v ∧ v ≤ U) : Turn L U (l1 ++ f :: (p, v) :: s :: l2) := by
  have g := h.good
  have hi := inc_amid am g.inc
  have hl := least_amid am g.inc
  have g' : Good L U (l1 ++ f :: (p, v) :: s :: l2) := by
    refine ⟨by simp; omega, hi, ?_, ?_, ?_⟩
    · have := g.lo
      cases l1 with
      | nil => exact this
      | cons a l => exact this
    · have h1 := hiK_least (l1 ++ f :: (p, v) :: s :: l2)
      have h2 := hiK_least (l1 ++ f :: s :: l2)
      rw [← h1, hl, h2]
      exact g.hi
    · intro k hk
      rcases List.mem_append.mp hk with hk | hk
      · exact g.rng k (by simp [hk])
      · rcases List.mem_cons.mp hk with rfl | hk
        · exact g.rng k (by simp)
        · rcases List.mem_cons.mp hk with rfl | hk
          · exact hv
          · exact g.rng k (by
              refine List.mem_append_right _ (List.mem_cons_of_mem _ hk))
  refine .of_mono g' ?_
  have vv : ∀ t, valK (l1 ++ f :: (p, v) :: s :: l2) t = valK (l1 ++ f :: s :: l2) t := fun t => by
    rw [← val_least hi, hl, val_least g.inc]
  simp only [vv]
  exact h.mono
theorem enc_inN {α : Type} [DecidableEq α] {n : Nat} {f : α → D} {g : α → PyData} (h : Enc n f g) {m : Mu} {x : α} {xs : List α} {neg : Bool} {R : DK} (hR : R (.bl (xor neg (decide (x ∈ xs)))) m) (hn : n ≤ deep := by decide) : gInN neg (f x) (xs.map f) m R := by
  rw [gInN_, h.py m deep x hn, optK_some, pyAll_map (fun y => h.py m deep y hn) xs, optK_some, any_mem h.eqv]
  exact hR
/-- a knot more, on the straight: the size stays -/
theorem pairs_amid3 : ∀ {l1 l2 : List Kn} {f c s : Kn} {p : Kn × Kn}, p ∈ pairs (l1 ++ f :: c :: s :: l2) → p ∈ pairs (l1 ++ f :: s :: l2) ∨ p = (f, c) ∨ p = (c, s)
  | [], l2, f, c, s, p, h => by
    rw [List.nil_append, pairs_cons, pairs_cons] at h
    rw [List.nil_append, pairs_cons]
    rcases List.mem_cons.mp h with h | h
    · exact .inr (.inl h)
    · rcases List.mem_cons.mp h with h | h
      · exact .inr (.inr h)
      · exact .inl (List.mem_cons_of_mem _ h)
  | [a], l2, f, c, s, p, h => by
    rw [List.cons_append, List.nil_append, pairs_cons] at h
    rw [List.cons_append, List.nil_append, pairs_cons]
    rcases List.mem_cons.mp h with h | h
    · exact .inl (by rw [h]; exact List.mem_cons_self)
    · rcases pairs_amid3 (l1 := []) h with h | h
      · exact .inl (List.mem_cons_of_mem _ h)
      · exact .inr h
  | a :: b :: l, l2, f, c, s, p, h => by
    rw [List.cons_append, List.cons_append, pairs_cons] at h
    rw [List.cons_append, List.cons_append, pairs_cons]
    rcases List.mem_cons.mp h with h | h
    · exact .inl (by rw [h]; exact List.mem_cons_self)
    · rcases pairs_amid3 (l1 := b :: l) h with h | h
      · exact .inl (List.mem_cons_of_mem _ h)
      · exact .inr h
theorem pair_mid : ∀ {l1 l2 : List Kn} {f s : Kn}, (f, s) ∈ pairs (l1 ++ f :: s :: l2)
  | [], l2, f, s => by rw [List.nil_append, pairs_cons]; exact List.mem_cons_self
  | [a], l2, f, s => by
    rw [List.cons_append, List.nil_append, pairs_cons]
    exact List.mem_cons_of_mem _ (pair_mid (l1 := []))
  | a :: b :: l, l2, f, s => by
    rw [List.cons_append, List.cons_append, pairs_cons]
    exact List.mem_cons_of_mem _ (pair_mid (l1 := b :: l))
theorem good_amid {L U p v : Rat} {l1 l2 : List Kn} {f s : Kn} (g : Good L U (l1 ++ f :: s :: l2)) (am : Amid f (p, v) s) (hv : L ≤ v ∧ v ≤ U) : Good L U (l1 ++ f :: (p, v) :: s :: l2) ∧ ∀ t, valK (l1 ++ f :: (p, v) :: s :: l2) t = valK (l1 ++ f :: s :: l2) t := by
  have hi := inc_amid am g.inc
  have hl := least_amid am g.inc
  refine ⟨⟨by simp; omega, hi, ?_, ?_, ?_⟩, fun t => by rw [← val_least hi, hl, val_least g.inc]⟩
  · have := g.lo
    cases l1 with
    | nil => exact this
    | cons a l => exact this
  · have h1 := hiK_least (l1 ++ f :: (p, v) :: s :: l2)
    have h2 := hiK_least (l1 ++ f :: s :: l2)
    rw [← h1, hl, h2]
    exact g.hi
  · intro k hk
    rcases List.mem_append.mp hk with hk | hk
    · exact g.rng k (by simp [hk])
    · rcases List.mem_cons.mp hk with rfl | hk
      · exact g.rng k (by simp)
      · rcases List.mem_cons.mp hk with rfl | hk
        · exact hv
        · exact g.rng k (by
            refine List.mem_append_right _ (List.mem_cons_of_mem _ hk))
theorem fm_amid {L U p v : Rat} {be n c c' : Nat} {l1 l2 : List Kn} {f s : Kn} (e : Ev L U be) (F : Fm L U be n c (l1 ++ f :: s :: l2)) (am : Amid f (p, v) s) (hp : DF be 1 p) (hv : L ≤ v ∧ v ≤ U) (hl : (l1 ++ f :: (p, v) :: s :: l2).length + 1 ≤ 2 ^ c') : Fm L U be n c' (l1 ++ f :: (p, v) :: s :: l2) := by
  obtain ⟨g', _⟩ := good_amid F.good am hv
  have hN : 1 ≤ 2 ^ n := Nat.pow_pos (by decide)
  have lf := F.pf.pc (f, s) pair_mid
  have flt : f.1 < s.1 := pairs_lt F.good.inc (p := (f, s)) pair_mid
  have ev : v = ln f s p := by rw [← ln_eq flt]; exact am.2.2
  refine ⟨g', ⟨fun k hk => ?_, fun w hw => ?_⟩, hl⟩
  · have hk' : k = (p, v) ∨ k ∈ l1 ++ f :: s :: l2 := by
      rcases List.mem_append.mp hk with h | h
      · exact .inr (List.mem_append_left _ h)
      · rcases List.mem_cons.mp h with rfl | h
        · exact .inr (by simp)
        · rcases List.mem_cons.mp h with rfl | h
          · exact .inl rfl
          · exact .inr (List.mem_append_right _ (List.mem_cons_of_mem _ h))
    rcases hk' with rfl | h
    · refine ⟨hp.mono hN, ?_⟩
      show DF be (2 ^ n) v
      rw [ev]
      have := DF.val (q := (f, s)) e.b0 flt lf hp
      rw [Nat.one_mul] at this
      exact this
    · exact F.pf.kn k h
  · obtain ⟨P, D, cc, d0, dN, pN, e1, e2⟩ := lf
    have e3 := LF.line (N := 2 ^ n) (t := p) flt d0 e.b0 e1 e2
    rw [← ev] at e3
    rcases pairs_amid3 hw with h | rfl | rfl
    · exact F.pf.pc w h
    · exact ⟨P, D, cc, d0, dN, pN, e1, e3⟩
    · exact ⟨P, D, cc, d0, dN, pN, e3, e2⟩
theorem about_congr {L U : Rat} {ks ks' tk tk' : List Kn} (g : Good L U ks) (g' : Good L U ks') (T : Turn L U tk) (T' : Turn L U tk') (h : ∀ t, L ≤ t → t ≤ U → valK ks' t = valK ks t) (h' : ∀ t, L ≤ t → t ≤ U → valK tk' t = valK tk t) : aboutK ks' tk' = aboutK ks tk := by
  have hl : leastK (aboutK ks tk) = aboutK ks tk := least_cmp (good_cmp T.bkT.good g) T.good
  have hl' : leastK (aboutK ks' tk') = aboutK ks' tk' := least_cmp (good_cmp T'.bkT.good g') T'.good
  rw [← hl, ← hl']
  refine least_uniq (good_about g' T') (good_about g T) fun t t1 t2 => ?_
  rw [val_about g' T' t1 t2, val_about g T t1 t2]
  have r := T.bkT.good.val t1 t2
  have r' := T'.bkT.good.val t1 t2
  have eb : valK (bkK tk') t = valK (bkK tk) t := by
    refine T.inj r'.1 r'.2 r.1 r.2 ?_
    rw [T.v_b t1 t2, ← h' _ r'.1 r'.2, T'.v_b t1 t2]
  rw [eb, h _ r.1 r.2]
  have r2 := g.val r.1 r.2
  exact h' _ r2.1 r2.2

section
variable {L U : Rat}
theorem stays_val {t : Rat} (h : L < U) (t1 : L ≤ t) (t2 : t ≤ U) : valK [(L, L), (U, U)] t = t := by
  have := turnK_val (good_id h) t1 t2 0
  unfold turnK iterV at this
  rw [(good_id h).lo, (good_id h).hi] at this
  exact this
theorem flip_val {t : Rat} (h : L < U) (t1 : L ≤ t) (t2 : t ≤ U) : valK [(L, U), (U, L)] t = L + U - t := by
  rw [valK_2 (by exact h), if_neg (by show ¬ U < t; grind)]
  unfold ln
  have : slp (L, U) (U, L) = -1 := by
    unfold slp
    show (L - U) / (U - L) = -1
    have : U - L ≠ 0 := by grind
    grind
  rw [this]
  show U + -1 * (t - L) = L + U - t
  grind
/-- turned round: both ways -/
def flipL (L U : Rat) (ks : List Kn) : List Kn := (ks.map fun k => (L + U - k.1, L + U - k.2)).reverse
theorem flipL_good {ks : List Kn} (g : Good L U ks) : Good L U (flipL L U ks) := by
  refine ⟨by unfold flipL; simp; exact g.len, ?_, ?_, ?_, ?_⟩
  · unfold Inc flipL
    rw [List.pairwise_reverse, List.pairwise_map]
    exact g.inc.imp fun {a b} h => by
      show L + U - b.1 < L + U - a.1
      have : a.1 < b.1 := h
      grind
  · unfold flipL
    rw [loK_rev]
    obtain ⟨z, gz, zU, _⟩ := g.last
    rw [hiK_lastK (z := (L + U - z.1, L + U - z.2)) (by rw [List.getLast?_map, gz]; rfl)]
    show L + U - z.1 = L
    grind
  · unfold flipL
    rw [hiK_rev]
    match ks, g with
    | a :: l, g =>
      show L + U - a.1 = U
      have := g.head
      grind
  · intro k hk
    unfold flipL at hk
    rw [List.mem_reverse] at hk
    obtain ⟨z, hz, rfl⟩ := List.mem_map.mp hk
    have := g.rng z hz
    constructor <;> grind
theorem flipL_val {ks : List Kn} (g : Good L U ks) {t : Rat} (t1 : L ≤ t) (t2 : t ≤ U) : valK (flipL L U ks) t = L + U - valK ks (L + U - t) := by
  have gf := flipL_good g
  obtain ⟨q, hq, q1, q2, e⟩ := g.piece (t := L + U - t) (by grind) (by grind)
  have qlt := pairs_lt g.inc hq
  have hm : (((L + U - q.2.1, L + U - q.2.2), (L + U - q.1.1, L + U - q.1.2)) : Kn × Kn) ∈ pairs (flipL L U ks) := by
    unfold flipL
    refine pairs_rev (p := ((L + U - q.1.1, L + U - q.1.2), (L + U - q.2.1, L + U - q.2.2))) ?_
    rw [pairs_map]
    exact List.mem_map.mpr ⟨q, hq, rfl⟩
  rw [val_piece gf.inc hm (by show L + U - q.2.1 ≤ t; grind) (by show t ≤ L + U - q.1.1; grind), e]
  have sm := slp_mul qlt
  have hs : slp (L + U - q.2.1, L + U - q.2.2) (L + U - q.1.1, L + U - q.1.2) = slp q.1 q.2 := by
    unfold slp
    show (L + U - q.1.2 - (L + U - q.2.2)) / (L + U - q.1.1 - (L + U - q.2.1)) = _
    have e1 : L + U - q.1.2 - (L + U - q.2.2) = q.2.2 - q.1.2 := by grind
    have e2 : L + U - q.1.1 - (L + U - q.2.1) = q.2.1 - q.1.1 := by grind
    rw [e1, e2]
  unfold ln
  rw [hs]
  show L + U - q.2.2 + slp q.1 q.2 * (t - (L + U - q.2.1)) = L + U - (q.1.2 + slp q.1 q.2 * (L + U - t - q.1.1))
  grind
theorem about_flip {ks : List Kn} (g : Good L U ks) : aboutK ks [(L, U), (U, L)] = leastK (flipL L U ks) := by
  have h := g.lt
  have T := flip_turn h
  have hl : leastK (aboutK ks [(L, U), (U, L)]) = aboutK ks [(L, U), (U, L)] := least_cmp (good_cmp T.bkT.good g) T.good
  rw [← hl]
  refine least_uniq (good_about g T) (flipL_good g) fun t t1 t2 => ?_
  have bk : valK (bkK [(L, U), (U, L)]) t = L + U - t := by
    have := T.b_v (t := L + U - t) (by grind) (by grind)
    rw [flip_val h (by grind) (by grind)] at this
    rw [show L + U - (L + U - t) = t by grind] at this
    exact this
  have rv := g.val (t := L + U - t) (by grind) (by grind)
  rw [val_about g T t1 t2, bk, flipL_val g t1 t2, flip_val h rv.1 rv.2]
end
/-! maps on the grid -/
def GM (g : Grid) (ks : List Kn) : Prop := ∃ zs, ks = gkn g zs ∧ GZ g zs ∧ zs.length ≤ 8
section
variable {g : Grid} {ks : List Kn}
theorem GM.fm (hg : g.Ok) (h : GM g ks) : Fm (atG g 0) (atG g g.n) (g.n * g.b) 12 4 ks ∧ BdK 20 ks := by
  obtain ⟨zs, rfl, hz, hl⟩ := h
  refine ⟨hz.fm hg (by omega), fun k hk => ?_⟩
  obtain ⟨z, hz', rfl⟩ := List.mem_map.mp hk
  have hbat : ∀ i : Int, 0 ≤ i ∧ i ≤ (g.n : Int) → Bd 20 (atG g i) := by
    intro i hi
    have nr := num_rng hg hi
    have d := hg.pos
    have hn := hg.n0
    unfold atG
    have hb2 : (g.n : Int) * (g.b : Int) ≤ 100 * 28 := Int.mul_le_mul (by omega) (by have := hg.b0; omega) (by omega) (by decide)
    exact Bd.of_div (n := 20) (by omega) (by omega) (by omega)
  have r := hz.rng z hz'
  exact ⟨hbat _ r.1, hbat _ r.2⟩
theorem atG_refl (hg : g.Ok) (k : Int) : atG g 0 + atG g g.n - atG g k = atG g ((g.n : Int) - k) := by
  have h0 : ((((g.n : Int) * (g.b : Int) : Int)) : Rat) ≠ 0 := by
    have : (g.n : Int) * (g.b : Int) ≠ 0 := by have := hg.pos; omega
    exact_mod_cast this
  unfold atG
  have e : ((g.f * g.n + (g.l - g.f) * ((g.n : Int) - k) : Int) : Rat) = ((g.f * g.n + (g.l - g.f) * 0 : Int) : Rat) + ((g.f * g.n + (g.l - g.f) * g.n : Int) : Rat) - ((g.f * g.n + (g.l - g.f) * k : Int) : Rat) := by
    rw [← Rat.intCast_add, ← Rat.intCast_sub]
    congr 1
    rw [Int.mul_sub]
    omega
  rw [e]
  generalize ((((g.n : Int) * (g.b : Int) : Int)) : Rat) = d at h0
  grind
theorem sub_gz {zs zs' : List (Int × Int)} (hz : GZ g zs) (hs : zs'.Sublist zs) (h0 : (zs'.map (·.1)).head? = some 0) (hL : (zs'.map (·.1)).getLast? = some (g.n : Int)) (hl : 2 ≤ zs'.length) : GZ g zs' :=
  ⟨List.Pairwise.sublist (hs.map _) hz.up, fun z h => hz.rng z (hs.subset h), h0, hL, hl⟩
theorem atG_inj (hg : g.Ok) {i j : Int} (h : atG g i = atG g j) : i = j := by
  rcases Int.lt_trichotomy i j with c | c | c
  · have := atG_lt hg c; grind
  · exact c
  · have := atG_lt hg c; grind
theorem GM.least (hg : g.Ok) (h : GM g ks) : GM g (leastK ks) := by
  obtain ⟨zs, rfl, hz, hl⟩ := h
  have gd := (hz.good hg).least
  have hs := leastK_sub (gkn g zs)
  unfold gkn at hs
  obtain ⟨zs', hs', e⟩ := List.sublist_map_iff.mp hs
  have e' : leastK (gkn g zs) = gkn g zs' := e
  refine ⟨zs', e', sub_gz hz hs' ?_ ?_ ?_, by have := hs'.length_le; omega⟩
  · rw [e'] at gd
    cases zs' with
    | nil => exact absurd rfl gd.ne
    | cons z l =>
      have := gd.lo
      have : atG g z.1 = atG g 0 := this
      rw [List.map_cons, List.head?_cons, atG_inj hg this]
  · rw [e'] at gd
    have ne : zs' ≠ [] := by
      intro q
      rw [q] at gd
      exact gd.ne rfl
    have := gd.hi
    rw [hiK_lastK (z := (atG g (zs'.getLast ne).1, atG g (zs'.getLast ne).2)) (by unfold gkn; rw [List.getLast?_map, List.getLast?_eq_some_getLast ne]; rfl)] at this
    rw [List.getLast?_map, List.getLast?_eq_some_getLast ne]
    show some (zs'.getLast ne).1 = _
    rw [atG_inj hg this]
  · have := gd.len
    rw [e', gkn_len] at this
    exact this
theorem GM.flip (hg : g.Ok) (h : GM g ks) : GM g (flipL (atG g 0) (atG g g.n) ks) := by
  obtain ⟨zs, rfl, hz, hl⟩ := h
  refine ⟨(zs.map fun z => ((g.n : Int) - z.1, (g.n : Int) - z.2)).reverse, ?_, ?_, by simpa using hl⟩
  · unfold flipL gkn
    rw [List.map_reverse, List.map_map, List.map_map]
    congr 1
    refine List.map_congr_left fun z _ => ?_
    show (atG g 0 + atG g g.n - atG g z.1, atG g 0 + atG g g.n - atG g z.2) = (atG g ((g.n : Int) - z.1), atG g ((g.n : Int) - z.2))
    rw [atG_refl hg, atG_refl hg]
  · refine ⟨?_, ?_, ?_, ?_, ?_⟩
    · rw [List.map_reverse, List.pairwise_reverse, List.map_map, List.pairwise_map]
      have := hz.up
      rw [List.pairwise_map] at this
      exact this.imp fun {a b} h => by
        show (g.n : Int) - b.1 < (g.n : Int) - a.1
        have : a.1 < b.1 := h
        omega
    · intro z h
      rw [List.mem_reverse] at h
      obtain ⟨w, hw, rfl⟩ := List.mem_map.mp h
      have := hz.rng w hw
      exact ⟨⟨by show 0 ≤ (g.n : Int) - w.1; omega, by show (g.n : Int) - w.1 ≤ g.n; omega⟩, by show 0 ≤ (g.n : Int) - w.2; omega, by show (g.n : Int) - w.2 ≤ g.n; omega⟩
    · have := hz.hL
      rw [List.map_reverse, List.head?_reverse, List.map_map, List.getLast?_map]
      rw [List.getLast?_map] at this
      cases e : zs.getLast? with
      | none => rw [e] at this; cases this
      | some z =>
        rw [e] at this
        simp at this
        simp [this]
    · have := hz.h0
      rw [List.map_reverse, List.getLast?_reverse, List.map_map, List.head?_map]
      rw [List.head?_map] at this
      cases e : zs.head? with
      | none => rw [e] at this; cases this
      | some z =>
        rw [e] at this
        simp at this
        simp [this]
    · have := hz.len
      simpa using this
theorem GM.about (hg : g.Ok) (h : GM g ks) : GM g (aboutK ks [(atG g 0, atG g g.n), (atG g g.n, atG g 0)]) := by
  rw [about_flip (h.fm hg).1.good]
  exact (h.flip hg).least hg
theorem GM.both (hg : g.Ok) : GM g [(atG g 0, atG g 0), (atG g g.n, atG g g.n)] ∧ GM g [(atG g 0, atG g g.n), (atG g g.n, atG g 0)] := by
  have hn := hg.n0
  constructor
  · exact ⟨[(0, 0), (g.n, g.n)], rfl, ⟨by simp; omega, by simp, rfl, rfl, by simp⟩, by simp⟩
  · exact ⟨[(0, g.n), (g.n, 0)], rfl, ⟨by simp; omega, by simp, rfl, rfl, by simp⟩, by simp⟩
theorem GM.set (h : GM g ks) {i : Nat} (hi : i < ks.length) {w : Int} (hw : 0 ≤ w ∧ w ≤ (g.n : Int)) : GM g (ks.take i ++ [((ks[i]).1, atG g w)] ++ ks.drop (i + 1)) := by
  obtain ⟨zs, rfl, hz, hl⟩ := h
  have hi' : i < zs.length := by rw [gkn_len] at hi; exact hi
  have ef : (zs.take i ++ [((zs[i]).1, w)] ++ zs.drop (i + 1)).map (·.1) = zs.map (·.1) := by
    have h2 : (zs.map (·.1)).drop i = (zs[i]).1 :: (zs.map (·.1)).drop (i + 1) := by
      rw [List.drop_eq_getElem_cons (by simpa using hi')]
      simp
    rw [List.map_append, List.map_append, List.map_take, List.map_drop, List.append_assoc]
    show (zs.map (·.1)).take i ++ ((zs[i]).1 :: (zs.map (·.1)).drop (i + 1)) = _
    rw [← h2, List.take_append_drop]
  have el : (zs.take i ++ [((zs[i]).1, w)] ++ zs.drop (i + 1)).length = zs.length := by
    have := congrArg List.length ef
    simpa using this
  refine ⟨zs.take i ++ [((zs[i]).1, w)] ++ zs.drop (i + 1), ?_, ⟨by rw [ef]; exact hz.up, fun z hz' => ?_, by rw [ef]; exact hz.h0, by rw [ef]; exact hz.hL, by rw [el]; exact hz.len⟩, by rw [el]; exact hl⟩
  · have hg1 : ((gkn g zs)[i]).1 = atG g (zs[i]).1 := by simp [gkn]
    rw [hg1]
    unfold gkn
    rw [List.map_append, List.map_append, List.map_take, List.map_drop]
    rfl
  · rcases List.mem_append.mp hz' with h | h
    · rcases List.mem_append.mp h with h | h
      · exact hz.rng z (List.mem_of_mem_take h)
      · simp at h
        subst h
        exact ⟨(hz.rng _ (List.getElem_mem hi')).1, hw⟩
    · exact hz.rng z (List.mem_of_mem_drop h)
theorem atG_zero (hg : g.Ok) : atG g 0 = ((g.f : Int) : Rat) / ((g.b : Int) : Rat) := by
  have hn := hg.n0
  have hb := hg.b0
  unfold atG
  rw [Int.mul_zero, Int.add_zero, Int.mul_comm g.f, scale_div (x := g.f) (y := g.b) (c := g.n) (by omega) (by omega)]
/-- the first half and its turn -/
theorem atG_half (hg : g.Ok) {k : Int} (h : atG g k < atG { g with n := 2 } 1) : 2 * k < (g.n : Int) := by
  rcases Int.lt_or_le (2 * k) (g.n : Int) with c | c
  · exact c
  · exfalso
    have hn := hg.n0
    have hb := hg.b0
    have hl := hg.l0
    have e : atG { g with n := 2 } 1 = ((g.f * 2 * g.n + (g.l - g.f) * g.n : Int) : Rat) / (((g.n : Int) * (g.b : Int) * 2 : Int) : Rat) := by
      unfold atG
      show ((g.f * (2 : Nat) + (g.l - g.f) * 1 : Int) : Rat) / ((((2 : Nat) : Int) * (g.b : Int) : Int) : Rat) = _
      have n0 : ((g.n : Int) : Rat) ≠ 0 := by
        have : (g.n : Int) ≠ 0 := by omega
        exact_mod_cast this
      have b0 : ((g.b : Int) : Rat) ≠ 0 := by
        have : (g.b : Int) ≠ 0 := by omega
        exact_mod_cast this
      simp only [Rat.intCast_add, Rat.intCast_mul, Rat.intCast_sub]
      have e2 : (((2 : Nat) : Int) : Rat) = 2 := rfl
      have e3 : ((2 : Int) : Rat) = 2 := rfl
      have e4 : ((1 : Int) : Rat) = 1 := rfl
      rw [e2, e3, e4]
      grind
    have e' : atG g k = ((g.f * 2 * g.n + (g.l - g.f) * (2 * k) : Int) : Rat) / (((g.n : Int) * (g.b : Int) * 2 : Int) : Rat) := by
      unfold atG
      have d0 : ((((g.n : Int) * (g.b : Int) : Int)) : Rat) ≠ 0 := by
        have : (g.n : Int) * (g.b : Int) ≠ 0 := by have := hg.pos; omega
        exact_mod_cast this
      simp only [Rat.intCast_add, Rat.intCast_mul, Rat.intCast_sub] at *
      have e3 : ((2 : Int) : Rat) = 2 := rfl
      rw [e3]
      grind
    rw [e, e'] at h
    have := div_le (b := (g.n : Int) * (g.b : Int) * 2) (by have := hg.pos; omega) (show g.f * 2 * g.n + (g.l - g.f) * g.n ≤ g.f * 2 * g.n + (g.l - g.f) * (2 * k) by
      have := Int.mul_le_mul_of_nonneg_left c (show 0 ≤ g.l - g.f by omega)
      omega)
    grind
end
/-- told to be a turn: so it is one -/
theorem isT_turn {L U : Rat} {ks : List Kn} (hi : Inc ks) (h2 : 2 ≤ ks.length) (lo : loK ks = L) (hh : hiK ks = U) (h : isT ks = true) : Turn L U ks := by
  have lU : L < U := by
    match ks, h2 with
    | a :: b :: l, _ =>
      have h1 := hi.lt
      have h3 := le_hiK hi (k := b) (by simp)
      rw [loK_cons] at lo
      grind
  unfold isT at h
  rw [lo, hh] at h
  by_cases c : loK (swapK ks) = L ∧ hiK (swapK ks) = U
  · rw [if_pos c, decide_eq_true_eq] at h
    have u : Up ks := rel_pairs (fun a b c h1 h2 => by grind) h
    have hs : Inc (swapK ks) := by
      unfold Inc swapK
      rw [List.pairwise_map]
      exact u
    refine ⟨⟨h2, hi, lo, hh, fun k hk => ?_⟩, .inl ⟨u, c⟩⟩
    have hm : swp k ∈ swapK ks := List.mem_map_of_mem hk
    have e1 := loK_le hs hm
    have e2 := le_hiK hs hm
    rw [c.1] at e1
    rw [c.2] at e2
    exact ⟨e1, e2⟩
  · rw [if_neg c, Bool.and_eq_true, decide_eq_true_eq, decide_eq_true_eq] at h
    obtain ⟨c1, h⟩ := h
    have u : Dn ks := rel_pairs (fun a b c h1 h2 => by grind) h
    have hs : Inc (swapK ks).reverse := by
      unfold Inc
      rw [List.pairwise_reverse]
      unfold swapK
      rw [List.pairwise_map]
      exact u
    refine ⟨⟨h2, hi, lo, hh, fun k hk => ?_⟩, .inr ⟨u, c1⟩⟩
    have hm : swp k ∈ (swapK ks).reverse := List.mem_reverse.mpr (List.mem_map_of_mem hk)
    have e1 := loK_le hs hm
    have e2 := le_hiK hs hm
    rw [loK_rev, c1.2] at e1
    rw [hiK_rev, c1.1] at e2
    exact ⟨e1, e2⟩

/-! ### the deck of the tables -/
def TDeck (N : Nat) (m : Mu) (a b : Addr) : Prop := ∃ (cs : List Int) (k s : Int), m a = some (.lst [.ref b, .int k, .int s]) ∧ m b = some (.lst (cs.map D.int)) ∧ 1 ≤ cs.length ∧ cs.length ≤ 64 ∧ 0 ≤ k ∧ k ≤ N ∧ 0 ≤ s ∧ s < 2 ^ 31
def Eq2 (a b : Addr) (m m' : Mu) : Prop := ∀ x, x ≠ a → x ≠ b → m' x = m x
section
variable {N : Nat} {m m' : Mu} {a b x : Addr} {o : O}
theorem TDeck.put (h : TDeck N m a b) (xa : x ≠ a) (xb : x ≠ b) : TDeck N (mput m x o) a b := by
  obtain ⟨cs, k, s, h1, h2, h3⟩ := h
  exact ⟨cs, k, s, by rw [mput_ne (Ne.symm xa)]; exact h1, by rw [mput_ne (Ne.symm xb)]; exact h2, h3⟩
theorem TDeck.na (h : TDeck N m a b) (hx : m x = none) : x ≠ a := by
  obtain ⟨cs, k, s, h1, h2, h3⟩ := h
  exact Ne.symm (ne_of h1 hx)
theorem TDeck.nb (h : TDeck N m a b) (hx : m x = none) : x ≠ b := by
  obtain ⟨cs, k, s, h1, h2, h3⟩ := h
  exact Ne.symm (ne_of h2 hx)
theorem TDeck.new (h : TDeck N m a b) (hx : m x = none) : TDeck N (mput m x o) a b := h.put (h.na hx) (h.nb hx)
theorem TDeck.mono {K : Nat} (h : TDeck N m a b) (hk : N ≤ K) : TDeck K m a b := by
  obtain ⟨cs, k, s, h1, h2, h3, h4, h5, h6, h7⟩ := h
  exact ⟨cs, k, s, h1, h2, h3, h4, h5, by omega, h7⟩
end
def spTake : DSp := fun ds m R _ => ∃ (a b : Addr) (many : Int) (N : Nat), ds = [.ref a, .int many] ∧ TDeck N m a b ∧ N < 2 ^ 50 ∧ 0 < many ∧ many < 2 ^ 40 ∧ ∀ (v : Int) (m' : Mu), 0 ≤ v → v < many → TDeck (N + 1) m' a b → Eq2 a b m m' → R (.int v) m'
/-! ### tables -/
def tabD (t : List (List Int)) : D := .tup (t.map fun r => .tup (r.map D.int))
structure Tab (n : Nat) (t : List (List Int)) : Prop where
  n1 : 1 ≤ n ∧ n ≤ 12
  len : t.length = n
  row : ∀ r ∈ t, r.length = n ∧ ∀ z ∈ r, 0 ≤ z ∧ z ≤ 9
/-! rows of a table being made: lists by address -/
def RowOk (n : Nat) (r : List Int) : Prop := r.length = n ∧ ∀ z ∈ r, 0 ≤ z ∧ z ≤ 9
structure Rws (a b rw : Addr) (n : Nat) (rs : List (Addr × List Int)) (M : Mu) : Prop where
  len : rs.length = n
  nd : (rs.map (·.1)).Nodup
  row : ∀ p ∈ rs, M p.1 = some (.lst (p.2.map D.int)) ∧ p.1 ≠ a ∧ p.1 ≠ b ∧ p.1 ≠ rw ∧ RowOk n p.2
  rwL : M rw = some (.lst (rs.map fun p => D.ref p.1))
  rwa : rw ≠ a ∧ rw ≠ b
section
variable {a b rw x c : Addr} {n : Nat} {rs : List (Addr × List Int)} {M M' : Mu} {o : O}
theorem Rws.new (h : Rws a b rw n rs M) (hx : M x = none) : Rws a b rw n rs (mput M x o) :=
  ⟨h.len, h.nd, fun p hp => ⟨by rw [mput_ne (ne_of (h.row p hp).1 hx)]; exact (h.row p hp).1, (h.row p hp).2⟩, by rw [mput_ne (ne_of h.rwL hx)]; exact h.rwL, h.rwa⟩
theorem Rws.eq2 (h : Rws a b rw n rs M) (he : Eq2 a b M M') : Rws a b rw n rs M' :=
  ⟨h.len, h.nd, fun p hp => ⟨by rw [he _ (h.row p hp).2.1 (h.row p hp).2.2.1]; exact (h.row p hp).1, (h.row p hp).2⟩, by rw [he _ h.rwa.1 h.rwa.2]; exact h.rwL, h.rwa⟩
theorem map_fst_set {α β : Type} : ∀ (l : List (α × β)) (k : Nat) (p : α × β), (l.set k p).map (·.1) = (l.map (·.1)).set k p.1 := by
  intro l k p
  rw [List.map_set]
theorem nodup_set {α : Type} {l : List α} {k : Nat} {y : α} (h : l.Nodup) (hy : y ∉ l) : (l.set k y).Nodup := by
  rw [List.nodup_iff_pairwise_ne, List.pairwise_iff_getElem]
  intro i j hi hj hij
  rw [List.length_set] at hi hj
  rw [List.getElem_set, List.getElem_set]
  have hn := List.pairwise_iff_getElem.mp (List.nodup_iff_pairwise_ne.mp h) i j hi hj hij
  split
  · split
    · omega
    · intro e
      exact hy (e ▸ List.getElem_mem hj)
  · split
    · intro e
      exact hy (e ▸ List.getElem_mem hi)
    · exact hn
theorem mem_set_cases {α : Type} {l : List α} {k : Nat} {y z : α} (h : z ∈ l.set k y) : z = y ∨ z ∈ l := by
  rcases List.mem_or_eq_of_mem_set h with h | h
  · exact .inr h
  · exact .inl h
/-- another list in a row's place -/
theorem Rws.set (h : Rws a b rw n rs M) (k : Nat) {r : List Int} (hc : M c = some (.lst (r.map D.int))) (ca : c ≠ a) (cb : c ≠ b) (cw : c ≠ rw) (cn : c ∉ rs.map (·.1)) (hr : RowOk n r) : Rws a b rw n (rs.set k (c, r)) (mput M rw (.lst ((rs.set k (c, r)).map fun p => D.ref p.1))) := by
  refine ⟨by rw [List.length_set]; exact h.len, by rw [map_fst_set]; exact nodup_set h.nd cn, fun p hp => ?_, mput_same, h.rwa⟩
  rcases mem_set_cases hp with rfl | hp
  · exact ⟨by rw [mput_ne cw]; exact hc, ca, cb, cw, hr⟩
  · have := h.row p hp
    exact ⟨by rw [mput_ne this.2.2.2.1]; exact this.1, this.2⟩
/-- a row written in its place -/
theorem Rws.inp (h : Rws a b rw n rs M) {k : Nat} (hk : k < rs.length) {r : List Int} (hr : RowOk n r) : Rws a b rw n (rs.set k ((rs[k]).1, r)) (mput M (rs[k]).1 (.lst (r.map D.int))) := by
  have hm : rs[k] ∈ rs := List.getElem_mem hk
  have h0 := h.row _ hm
  have e1 : (rs.set k ((rs[k]).1, r)).map (·.1) = rs.map (·.1) := by
    rw [map_fst_set]
    have : (rs[k]).1 = (rs.map (·.1))[k]'(by simpa using hk) := by simp
    show (rs.map (·.1)).set k (rs[k]).1 = _
    rw [this, List.set_getElem_self]
  refine ⟨by rw [List.length_set]; exact h.len, by rw [e1]; exact h.nd, fun p hp => ?_, ?_, h.rwa⟩
  · obtain ⟨i, hi, ei⟩ := List.mem_iff_getElem.mp hp
    rw [List.length_set] at hi
    rw [List.getElem_set] at ei
    split at ei
    · subst ei
      exact ⟨mput_same, h0.2.1, h0.2.2.1, h0.2.2.2.1, hr⟩
    · rename_i ne
      have hp' : p ∈ rs := by rw [← ei]; exact List.getElem_mem hi
      have := h.row p hp'
      refine ⟨?_, this.2⟩
      rw [mput_ne ?_]
      · exact this.1
      · intro e
        have hn := List.pairwise_iff_getElem.mp (List.nodup_iff_pairwise_ne.mp h.nd)
        rcases Nat.lt_or_gt_of_ne ne with c | c
        · refine hn k i (by simpa using hk) (by simpa using hi) c ?_
          simp only [List.getElem_map]
          rw [ei, e]
        · refine hn i k (by simpa using hi) (by simpa using hk) c ?_
          simp only [List.getElem_map]
          rw [ei, e]
  · rw [mput_ne (Ne.symm h0.2.2.2.1), h.rwL]
    have e2 : (rs.set k ((rs[k]).1, r)).map (fun p => D.ref p.1) = rs.map fun p => D.ref p.1 := by
      have : (rs.set k ((rs[k]).1, r)).map (fun p => D.ref p.1) = ((rs.set k ((rs[k]).1, r)).map (·.1)).map D.ref := by rw [List.map_map]; rfl
      rw [this, e1, List.map_map]
      rfl
    rw [e2]
theorem Rws.put (h : Rws a b rw n rs M) (xw : x ≠ rw) (xn : x ∉ rs.map (·.1)) : Rws a b rw n rs (mput M x o) :=
  ⟨h.len, h.nd, fun p hp => ⟨by rw [mput_ne (show p.1 ≠ x from fun e => xn (List.mem_map.mpr ⟨p, hp, e⟩))]; exact (h.row p hp).1, (h.row p hp).2⟩, by rw [mput_ne (Ne.symm xw)]; exact h.rwL, h.rwa⟩
theorem map_erase {α β : Type} (f : α → β) : ∀ (l : List α) (i : Nat), (l.map f).eraseIdx i = (l.eraseIdx i).map f
  | [], i => by simp
  | x :: l, 0 => rfl
  | x :: l, i + 1 => by
    rw [List.map_cons, List.eraseIdx_cons_succ, List.eraseIdx_cons_succ, List.map_cons, map_erase f l i]
theorem Rws.fresh (h : Rws a b rw n rs M) (hc : M c = none) : c ≠ rw ∧ c ∉ rs.map (·.1) := by
  refine ⟨Ne.symm (ne_of h.rwL hc), fun hm => ?_⟩
  obtain ⟨p, hp, rfl⟩ := List.mem_map.mp hm
  rw [(h.row p hp).1] at hc
  cases hc
end
/-! ### tables by their entries -/
def sumN : Nat → (Nat → Int) → Int
  | 0, _ => 0
  | n + 1, f => sumN n f + f n
theorem sumN_range (n : Nat) (f : Nat → Int) : ((List.range n).map f).sum = sumN n f := by
  induction n with
  | zero => rfl
  | succ n ih => rw [List.range_succ, List.map_append, List.sum_append, ih]; simp [sumN]
theorem sumN_congr {n : Nat} {f g : Nat → Int} (h : ∀ i, i < n → f i = g i) : sumN n f = sumN n g := by
  induction n with
  | zero => rfl
  | succ n ih => rw [sumN, sumN, ih (fun i hi => h i (by omega)), h n (by omega)]
theorem sumN_add {n : Nat} {f g : Nat → Int} : sumN n (fun i => f i + g i) = sumN n f + sumN n g := by
  induction n with
  | zero => rfl
  | succ n ih => rw [sumN, sumN, sumN, ih]; omega
theorem sumN_mul {n : Nat} {f : Nat → Int} {c : Int} : sumN n (fun i => c * f i) = c * sumN n f := by
  induction n with
  | zero => rw [sumN, sumN, Int.mul_zero]
  | succ n ih => rw [sumN, sumN, ih, Int.mul_add]
theorem sumN_zero {n : Nat} : sumN n (fun _ => 0) = 0 := by
  induction n with
  | zero => rfl
  | succ n ih => rw [sumN, ih]; rfl
theorem sumN_comm {n k : Nat} {f : Nat → Nat → Int} : sumN n (fun i => sumN k fun j => f i j) = sumN k fun j => sumN n fun i => f i j := by
  induction n with
  | zero =>
    show 0 = sumN k fun j => 0
    rw [sumN_zero]
  | succ n ih =>
    rw [sumN, ih, ← sumN_add]
    rfl
def en (t : List (List Int)) (i j : Nat) : Int := ((t[i]?.getD [])[j]?).getD 0
/-- powers of a table -/
def pw (n : Nat) (t : List (List Int)) : Nat → Nat → Nat → Int
  | 0, i, j => if i = j then 1 else 0
  | m + 1, i, j => sumN n fun k => pw n t m i k * en t k j
theorem sumN_delta {n i : Nat} (hi : i < n) {f : Nat → Int} : sumN n (fun k => (if i = k then 1 else 0) * f k) = f i := by
  induction n with
  | zero => omega
  | succ n ih =>
    rw [sumN]
    by_cases c : i = n
    · subst c
      have : sumN i (fun k => (if i = k then 1 else 0) * f k) = 0 := by
        rw [sumN_congr (g := fun _ => 0) (fun k hk => by rw [if_neg (by omega), Int.zero_mul]), sumN_zero]
      rw [this, if_pos rfl]
      omega
    · rw [ih (by omega), if_neg c]
      omega
theorem pw_one {n : Nat} {t : List (List Int)} {i j : Nat} (hi : i < n) : pw n t 1 i j = en t i j := by
  show sumN n (fun k => (if i = k then 1 else 0) * en t k j) = _
  exact sumN_delta hi
theorem Tab.get {n : Nat} {t : List (List Int)} (h : Tab n t) {i : Nat} (hi : i < n) : ∃ r, t[i]? = some r ∧ r.length = n ∧ (∀ z ∈ r, 0 ≤ z ∧ z ≤ 9) ∧ r = (List.range n).map (en t i) := by
  have hl : i < t.length := by rw [h.len]; exact hi
  have hr := h.row t[i] (List.getElem_mem hl)
  refine ⟨t[i], List.getElem?_eq_getElem hl, hr.1, hr.2, ?_⟩
  refine List.ext_getElem (by simp [hr.1]) fun j h1 h2 => ?_
  simp only [List.getElem_map, List.getElem_range]
  unfold en
  rw [List.getElem?_eq_getElem hl, Option.getD_some, List.getElem?_eq_getElem h1, Option.getD_some]
theorem Tab.en {n : Nat} {t : List (List Int)} (h : Tab n t) {i j : Nat} (hi : i < n) (hj : j < n) : 0 ≤ en t i j ∧ en t i j ≤ 9 := by
  obtain ⟨r, h1, h2, h3, h4⟩ := h.get hi
  unfold DL.en
  rw [h1, Option.getD_some, List.getElem?_eq_getElem (by omega), Option.getD_some]
  exact h3 _ (List.getElem_mem _)
/-- an entry, as the code reads it -/
theorem tab_at {n : Nat} {t : List (List Int)} (h : Tab n t) {i j : Int} (i0 : 0 ≤ i) (i1 : i < n) (j0 : 0 ≤ j) (j1 : j < n) {m : Mu} {R : DK} (hR : R (.int (en t i.toNat j.toNat)) m) : gIx (tabD t) (.int i) m fun x m1 => gIx x (.int j) m1 R := by
  obtain ⟨r, h1, h2, h3, h4⟩ := h.get (i := i.toNat) (by omega)
  unfold tabD
  rw [gIx_tup]
  refine atK_of (n := i.toNat) (x := .tup (r.map D.int)) (by omega) (by rw [List.getElem?_map, h1]; rfl) ?_
  rw [gIx_tup]
  refine atK_of (n := j.toNat) (x := .int (en t i.toNat j.toNat)) (by omega) ?_ hR
  rw [h4, List.getElem?_map, List.getElem?_map, List.getElem?_range (by omega)]
  rfl
theorem x_tabLen {t : List (List Int)} {m : Mu} {R : DK} : gLen [tabD t] m R = R (.int t.length) m := by unfold tabD; rw [gLen_tup, List.length_map]
/-- a square of lists -/
def Sq (n : Nat) (F : Nat → Nat → Int) (m : Mu) (f : Addr) : Prop := ∃ rs : List Addr, m f = some (.lst (rs.map D.ref)) ∧ rs.length = n ∧ ∀ (i : Nat) (hi : i < rs.length), m rs[i] = some (.lst (((List.range n).map (F i)).map D.int))
theorem Sq.sub {n : Nat} {F : Nat → Nat → Int} {m m' : Mu} {f : Addr} (h : Sq n F m f) (hs : Sub m m') : Sq n F m' f := by
  obtain ⟨rs, h1, h2, h3⟩ := h
  exact ⟨rs, hs _ _ h1, h2, fun i hi => hs _ _ (h3 i hi)⟩

/-! ### tables of any whole numbers, and the words that come -/
structure TabS (n : Nat) (t : List (List Int)) : Prop where
  n1 : 1 ≤ n ∧ n ≤ 20
  len : t.length = n
  row : ∀ r ∈ t, r.length = n
theorem TabS.get {n : Nat} {t : List (List Int)} (h : TabS n t) {i : Nat} (hi : i < n) : ∃ r, t[i]? = some r ∧ r.length = n ∧ r = (List.range n).map (en t i) := by
  have hl : i < t.length := by rw [h.len]; exact hi
  have hr := h.row t[i] (List.getElem_mem hl)
  refine ⟨t[i], List.getElem?_eq_getElem hl, hr, ?_⟩
  refine List.ext_getElem (by simp [hr]) fun j h1 h2 => ?_
  simp only [List.getElem_map, List.getElem_range]
  unfold en
  rw [List.getElem?_eq_getElem hl, Option.getD_some, List.getElem?_eq_getElem h1, Option.getD_some]
theorem tabS_at {n : Nat} {t : List (List Int)} (h : TabS n t) {i j : Int} (i0 : 0 ≤ i) (i1 : i < n) (j0 : 0 ≤ j) (j1 : j < n) {m : Mu} {R : DK} (hR : R (.int (en t i.toNat j.toNat)) m) : gIx (tabD t) (.int i) m fun x m1 => gIx x (.int j) m1 R := by
  obtain ⟨r, h1, h2, h4⟩ := h.get (i := i.toNat) (by omega)
  unfold tabD
  rw [gIx_tup]
  refine atK_of (n := i.toNat) (x := .tup (r.map D.int)) (by omega) (by rw [List.getElem?_map, h1]; rfl) ?_
  rw [gIx_tup]
  refine atK_of (n := j.toNat) (x := .int (en t i.toNat j.toNat)) (by omega) ?_ hR
  rw [h4, List.getElem?_map, List.getElem?_map, List.getElem?_range (by omega)]
  rfl
def stp (t : List (List Int)) (i j : Nat) : Int := if en t i j ≠ 0 then 1 else 0
def waysF (n : Nat) (t : List (List Int)) : Nat → Nat → Int
  | 0, _ => 1
  | m + 1, i => sumN n fun j => stp t i j * waysF n t m j
def endsF (n : Nat) (t : List (List Int)) : Nat → Nat → Int
  | 0, _ => 1
  | m + 1, j => sumN n fun k => stp t k j * endsF n t m k
theorem ends_ways (n : Nat) (t : List (List Int)) : ∀ (p q : Nat), (sumN n fun i => endsF n t p i * waysF n t q i) = sumN n fun i => waysF n t (p + q) i
  | 0, q => by
    rw [Nat.zero_add]
    exact sumN_congr fun i _ => by show 1 * _ = _; rw [Int.one_mul]
  | p + 1, q => by
    rw [show p + 1 + q = p + (q + 1) by omega, ← ends_ways n t p (q + 1)]
    show (sumN n fun i => (sumN n fun k => stp t k i * endsF n t p k) * waysF n t q i) = sumN n fun k => endsF n t p k * sumN n fun i => stp t k i * waysF n t q i
    have e1 : ∀ i, (sumN n fun k => stp t k i * endsF n t p k) * waysF n t q i = sumN n fun k => endsF n t p k * (stp t k i * waysF n t q i) := by
      intro i
      rw [Int.mul_comm, ← sumN_mul]
      refine sumN_congr fun k _ => ?_
      rw [Int.mul_comm (waysF n t q i), Int.mul_assoc, Int.mul_left_comm]
    have e2 : ∀ k, (endsF n t p k * sumN n fun i => stp t k i * waysF n t q i) = sumN n fun i => endsF n t p k * (stp t k i * waysF n t q i) := fun k => (sumN_mul).symm
    rw [sumN_congr (fun i _ => e1 i), sumN_comm]
    exact sumN_congr fun k _ => (e2 k).symm
theorem ends_sum (n : Nat) (t : List (List Int)) (m : Nat) : (sumN n fun i => endsF n t m i) = sumN n fun i => waysF n t m i := by
  rw [show (sumN n fun i => endsF n t m i) = sumN n fun i => endsF n t m i * waysF n t 0 i from sumN_congr fun i _ => by show _ = _ * 1; rw [Int.mul_one], ends_ways, Nat.add_zero]
/-- sum over those that pass a test -/
theorem sum_filter {α : Type} (p : α → Bool) (f : α → Int) : ∀ l : List α, ((l.filter p).map f).sum = (l.map fun x => (if p x = true then 1 else 0) * f x).sum
  | [] => rfl
  | x :: l => by
    rw [List.filter_cons, List.map_cons, List.sum_cons, ← sum_filter p f l]
    by_cases c : p x = true
    · rw [if_pos c, if_pos c, List.map_cons, List.sum_cons, Int.one_mul]
    · rw [if_neg c, if_neg c, Int.zero_mul, Int.zero_add]
/-- a word comes -/
def gapsW (t : List (List Int)) (w : List Int) : List Nat := (List.range (w.length - 1)).filter fun k => decide (en t (w[k]?.getD 0).toNat (w[k + 1]?.getD 0).toNat = 0)
def comesB (t : List (List Int)) (w : List Int) : Bool := decide (gapsW t w = [])
def WIn (n : Nat) (w : List Int) : Prop := ∀ z ∈ w, 0 ≤ z ∧ z < (n : Int)
def allW (n : Nat) : Nat → List (List Int)
  | 0 => [[]]
  | m + 1 => (allW n m).flatMap fun w => (List.range n).map fun (k : Nat) => w ++ [(k : Int)]
theorem allW_in (n : Nat) : ∀ m, ∀ w ∈ allW n m, WIn n w ∧ w.length = m
  | 0, w, h => by
    simp [allW] at h
    subst h
    exact ⟨fun z hz => by simp at hz, rfl⟩
  | m + 1, w, h => by
    unfold allW at h
    obtain ⟨u, hu, hw⟩ := List.mem_flatMap.mp h
    obtain ⟨k, hk, rfl⟩ := List.mem_map.mp hw
    rw [List.mem_range] at hk
    obtain ⟨h1, h2⟩ := allW_in n m u hu
    refine ⟨fun z hz => ?_, by simp [h2]⟩
    rcases List.mem_append.mp hz with h | h
    · exact h1 z h
    · simp at h
      subst h
      omega
theorem allW_sum (n m : Nat) (f : List Int → Int) : ((allW n (m + 1)).map f).sum = ((allW n m).map fun w => sumN n fun k => f (w ++ [(k : Int)])).sum := by
  show (((allW n m).flatMap fun w => (List.range n).map fun (k : Nat) => w ++ [(k : Int)]).map f).sum = _
  induction allW n m with
  | nil => rfl
  | cons w l ih =>
    rw [List.flatMap_cons, List.map_append, List.sum_append, ih, List.map_cons, List.sum_cons, List.map_map, ← sumN_range]
    rfl
theorem count_sum {α : Type} (p : α → Bool) : ∀ l : List α, ((l.filter p).length : Int) = (l.map fun x => if p x = true then (1 : Int) else 0).sum
  | [] => rfl
  | x :: l => by
    rw [List.filter_cons, List.map_cons, List.sum_cons, ← count_sum p l]
    by_cases c : p x = true
    · rw [if_pos c, if_pos c, List.length_cons]
      omega
    · rw [if_neg c, if_neg c]
      omega
theorem comes3 (t : List (List Int)) (a b c : Nat) : (if comesB t [(a : Int), (b : Int), (c : Int)] = true then (1 : Int) else 0) = stp t a b * stp t b c := by
  have e : gapsW t [(a : Int), (b : Int), (c : Int)] = ([0, 1] : List Nat).filter fun k => decide (en t (([(a : Int), (b : Int), (c : Int)] : List Int)[k]?.getD 0).toNat (([(a : Int), (b : Int), (c : Int)] : List Int)[k + 1]?.getD 0).toNat = 0) := rfl
  unfold comesB
  rw [e]
  unfold stp
  by_cases h1 : en t a b = 0 <;> by_cases h2 : en t b c = 0 <;> simp [h1, h2, List.filter_cons]
theorem three_words (n : Nat) (t : List (List Int)) : (((allW n 3).filter (comesB t)).length : Int) = sumN n fun a => waysF n t 2 a := by
  rw [count_sum, allW_sum, allW_sum, allW_sum]
  show ([([] : List Int)].map fun w => _).sum = _
  simp only [List.map_cons, List.map_nil, List.sum_cons, List.sum_nil, Int.add_zero, List.nil_append, List.cons_append]
  refine sumN_congr fun a _ => ?_
  show _ = sumN n fun b => stp t a b * sumN n fun c => stp t b c * 1
  refine sumN_congr fun b _ => ?_
  rw [← sumN_mul]
  refine sumN_congr fun c _ => ?_
  rw [comes3, Int.mul_one]

/-! ### comprehensions by place -/
theorem lc_ix {α : Type} {G : Mu → Prop} {g : DTG} {tt : DTT} {te : DTE} {r0 : DSt} {R : List D → Mu → Prop} (e : α → D) (xs : List α) (v : Nat → D) {m : Mu} (hG : G m) (hl : xs.length ≤ 1000000)
    (hstep : ∀ (i : Nat) (hi : i < xs.length) (acc : List D) (W : List D → Mu → Prop), acc.length < sizeLine → W (acc ++ [v i]) m → g (e xs[i]) r0 m fun r2 m2 => tt r2 m2 fun b m3 => if b = true then te r2 m3 fun y m4 => acc.length < sizeLine ∧ W (acc ++ [y]) m4 else W acc m3)
    (hR : R ((List.range xs.length).map v) m) : lcL G g tt te r0 (xs.map e) [] m R := by
  have hsl := sizeLine_eq
  refine lc_ind e (fun ys acc M => m = M ∧ ∃ k : Nat, k ≤ xs.length ∧ ys = xs.drop k ∧ acc = (List.range k).map v) ?_ ?_ _ _ _ ⟨rfl, 0, by omega, by simp, rfl⟩
  · rintro acc _ ⟨rfl, k, hk, hy, rfl⟩
    have : k = xs.length := by
      have := congrArg List.length hy
      simp at this
      omega
    subst this
    exact ⟨hG, hR⟩
  · rintro x ys acc _ W hW ⟨rfl, k, hk, hy, rfl⟩
    have hi : k < xs.length := by
      have := congrArg List.length hy
      simp at this
      omega
    rw [List.drop_eq_getElem_cons hi] at hy
    injection hy with ex ey
    subst ex
    refine ⟨hG, hstep k hi _ W (by rw [List.length_map, List.length_range]; omega) (hW _ _ ⟨rfl, k + 1, hi, ey, ?_⟩)⟩
    rw [List.range_succ, List.map_append]
    rfl
theorem lc_rows {α : Type} {G : Mu → Prop} {g : DTG} {tt : DTT} {te : DTE} {r0 : DSt} {R : List D → Mu → Prop} (e : α → D) (xs : List α) (row : Nat → List Int) {m : Mu} (hG : ∀ M, Sub m M → G M) (hl : xs.length ≤ 1000000)
    (hstep : ∀ (i : Nat) (hi : i < xs.length) (M : Mu) (acc : List D) (W : List D → Mu → Prop), Sub m M → acc.length < sizeLine → (∀ (c : Addr) (M' : Mu), Sub M M' → M' c = some (.lst ((row i).map D.int)) → W (acc ++ [.ref c]) M') → g (e xs[i]) r0 M fun r2 m2 => tt r2 m2 fun b m3 => if b = true then te r2 m3 fun y m4 => acc.length < sizeLine ∧ W (acc ++ [y]) m4 else W acc m3)
    (hR : ∀ (us : List Addr) (M : Mu), Sub m M → us.length = xs.length → (∀ (i : Nat) (hi : i < us.length), M us[i] = some (.lst ((row i).map D.int))) → R (us.map D.ref) M) : lcL G g tt te r0 (xs.map e) [] m R := by
  have hsl := sizeLine_eq
  refine lc_ind e (fun ys acc M => ∃ us : List Addr, acc = us.map D.ref ∧ us.length ≤ xs.length ∧ ys = xs.drop us.length ∧ Sub m M ∧ ∀ (i : Nat) (hi : i < us.length), M us[i] = some (.lst ((row i).map D.int))) ?_ ?_ _ _ _ ⟨[], rfl, by simp, by simp, Sub.refl m, fun i hi => by simp at hi⟩
  · rintro acc M ⟨us, rfl, hk, hy, hs, hu⟩
    have hn : us.length = xs.length := by
      have := congrArg List.length hy
      simp at this
      omega
    exact ⟨hG M hs, hR us M hs hn hu⟩
  · rintro x ys acc M W hW ⟨us, rfl, hk, hy, hs, hu⟩
    have hi : us.length < xs.length := by
      have := congrArg List.length hy
      simp at this
      omega
    rw [List.drop_eq_getElem_cons hi] at hy
    injection hy with ex ey
    subst ex
    refine ⟨hG M hs, hstep us.length hi M _ W hs (by rw [List.length_map]; omega) fun c M' hs' hc => hW _ _ ⟨us ++ [c], by simp, by simp; omega, by simpa using ey, hs.trans hs', fun i hi' => ?_⟩⟩
    simp at hi'
    by_cases c' : i < us.length
    · rw [List.getElem_append_left c']
      exact hs' _ _ (hu i c')
    · have : i = us.length := by omega
      subst this
      rw [List.getElem_append_right (by omega)]
      simp only [Nat.sub_self, List.getElem_cons_zero]
      exact hc
theorem lc_rowsF {α : Type} {G : Mu → Prop} {g : DTG} {tt : DTT} {te : DTE} {r0 : DSt} {R : List D → Mu → Prop} (e : α → D) (xs : List α) (row : Nat → List Int) {m : Mu} (hG : ∀ M, Sub m M → G M) (hl : xs.length ≤ 1000000)
    (hstep : ∀ (i : Nat) (hi : i < xs.length) (M : Mu) (acc : List D) (W : List D → Mu → Prop), Sub m M → acc.length < sizeLine → (∀ (c : Addr) (M' : Mu), Sub M M' → M c = none → M' c = some (.lst ((row i).map D.int)) → W (acc ++ [.ref c]) M') → g (e xs[i]) r0 M fun r2 m2 => tt r2 m2 fun b m3 => if b = true then te r2 m3 fun y m4 => acc.length < sizeLine ∧ W (acc ++ [y]) m4 else W acc m3)
    (hR : ∀ (us : List Addr) (M : Mu), Sub m M → us.length = xs.length → (∀ (i : Nat) (hi : i < us.length), m us[i] = none ∧ M us[i] = some (.lst ((row i).map D.int))) → R (us.map D.ref) M) : lcL G g tt te r0 (xs.map e) [] m R := by
  have hsl := sizeLine_eq
  refine lc_ind e (fun ys acc M => ∃ us : List Addr, acc = us.map D.ref ∧ us.length ≤ xs.length ∧ ys = xs.drop us.length ∧ Sub m M ∧ ∀ (i : Nat) (hi : i < us.length), m us[i] = none ∧ M us[i] = some (.lst ((row i).map D.int))) ?_ ?_ _ _ _ ⟨[], rfl, by simp, by simp, Sub.refl m, fun i hi => by simp at hi⟩
  · rintro acc M ⟨us, rfl, hk, hy, hs, hu⟩
    have hn : us.length = xs.length := by
      have := congrArg List.length hy
      simp at this
      omega
    exact ⟨hG M hs, hR us M hs hn hu⟩
  · rintro x ys acc M W hW ⟨us, rfl, hk, hy, hs, hu⟩
    have hi : us.length < xs.length := by
      have := congrArg List.length hy
      simp at this
      omega
    rw [List.drop_eq_getElem_cons hi] at hy
    injection hy with ex ey
    subst ex
    refine ⟨hG M hs, hstep us.length hi M _ W hs (by rw [List.length_map]; omega) fun c M' hs' hc0 hc => hW _ _ ⟨us ++ [c], by simp, by simp; omega, by simpa using ey, hs.trans hs', fun i hi' => ?_⟩⟩
    simp at hi'
    by_cases c' : i < us.length
    · rw [List.getElem_append_left c']
      exact ⟨(hu i c').1, hs' _ _ (hu i c').2⟩
    · have : i = us.length := by omega
      subst this
      rw [List.getElem_append_right (by omega)]
      simp only [Nat.sub_self, List.getElem_cons_zero]
      refine ⟨?_, hc⟩
      cases e : m c with
      | none => rfl
      | some o => rw [hs _ _ e] at hc0; cases hc0
/-! ### walks: some power of a square is full, so its power by the square of its size is -/
def Wk (n : Nat) (r : Nat → Nat → Prop) : Nat → Nat → Nat → Prop
  | 0, i, j => i = j
  | k + 1, i, j => ∃ q, q < n ∧ Wk n r k i q ∧ r q j
def FullW (n : Nat) (r : Nat → Nat → Prop) (k : Nat) : Prop := ∀ i, i < n → ∀ j, j < n → Wk n r k i j
section
variable {n : Nat} {r : Nat → Nat → Prop}
theorem Wk.trans {a i q : Nat} (h : Wk n r a i q) (hq : q < n) : ∀ {b j : Nat}, Wk n r b q j → Wk n r (a + b) i j
  | 0, j, h' => by
    have : q = j := h'
    subst this
    exact h
  | b + 1, j, ⟨p, hp, h1, h2⟩ => ⟨p, hp, Wk.trans h hq h1, h2⟩
theorem Wk.split {i : Nat} (hi : i < n) : ∀ {b a j : Nat}, j < n → Wk n r (a + b) i j → ∃ q, q < n ∧ Wk n r a i q ∧ Wk n r b q j
  | 0, a, j, hj, h => ⟨j, hj, h, rfl⟩
  | b + 1, a, j, hj, ⟨p, hp, h1, h2⟩ => by
    obtain ⟨q, hq, h3, h4⟩ := Wk.split hi hp h1
    exact ⟨q, hq, h3, p, hp, h4, h2⟩
open Classical in
noncomputable def cntP : Nat → (Nat → Prop) → Nat
  | 0, _ => 0
  | k + 1, P => cntP k P + if P k then 1 else 0
theorem cntP_le (P : Nat → Prop) : ∀ k, cntP k P ≤ k
  | 0 => Nat.le_refl _
  | k + 1 => by
    have := cntP_le P k
    unfold cntP
    split <;> omega
theorem cntP_mono {P Q : Nat → Prop} : ∀ k, (∀ j, j < k → P j → Q j) → cntP k P ≤ cntP k Q
  | 0, _ => Nat.le_refl _
  | k + 1, h => by
    have := cntP_mono k fun j hj => h j (by omega)
    have hk := h k (by omega)
    unfold cntP
    by_cases c : P k
    · rw [if_pos c, if_pos (hk c)]
      omega
    · rw [if_neg c]
      omega
theorem cntP_lt {P Q : Nat → Prop} : ∀ k, (∀ j, j < k → P j → Q j) → (∃ j, j < k ∧ Q j ∧ ¬ P j) → cntP k P + 1 ≤ cntP k Q
  | 0, _, ⟨j, hj, _⟩ => by omega
  | k + 1, h, ⟨j, hj, h1, h2⟩ => by
    have hm := cntP_mono k fun j hj => h j (by omega)
    have hk := h k (by omega)
    unfold cntP
    by_cases c : j = k
    · subst c
      rw [if_neg h2, if_pos h1]
      omega
    · have := cntP_lt k (fun j hj => h j (by omega)) ⟨j, by omega, h1, h2⟩
      by_cases c : P k
      · rw [if_pos c, if_pos (hk c)]
        omega
      · rw [if_neg c]
        omega
/-- reached within so many steps -/
def Ats (n : Nat) (r : Nat → Nat → Prop) (i k j : Nat) : Prop := ∃ m, m ≤ k ∧ Wk n r m i j
theorem ats_stab {i : Nat} (hi : i < n) : ∀ k, (∃ s, s < k ∧ ∀ j, j < n → Ats n r i (s + 1) j → Ats n r i s j) ∨ k + 1 ≤ cntP n (Ats n r i k)
  | 0 => by
    right
    have h0 : ∀ q, cntP q (fun _ => False) = 0 := by
      intro q
      induction q with
      | zero => rfl
      | succ q ih => unfold cntP; rw [ih, if_neg (fun h => h)]
    have := cntP_lt (P := fun _ => False) (Q := Ats n r i 0) n (fun _ _ h => h.elim) ⟨i, hi, ⟨0, Nat.le_refl _, rfl⟩, fun h => h⟩
    rw [h0] at this
    exact this
  | k + 1 => by
    rcases ats_stab hi k with ⟨s, hs, h⟩ | h
    · exact .inl ⟨s, by omega, h⟩
    · by_cases c : ∃ j, j < n ∧ Ats n r i (k + 1) j ∧ ¬ Ats n r i k j
      · right
        have := cntP_lt (P := Ats n r i k) (Q := Ats n r i (k + 1)) n (fun j _ ⟨m, hm, w⟩ => ⟨m, by omega, w⟩) c
        omega
      · left
        refine ⟨k, by omega, fun j hj h' => ?_⟩
        exact Classical.byContradiction fun hn => c ⟨j, hj, h', hn⟩
/-- what is reached at all is reached in fewer steps than there are places -/
theorem Wk.short {i : Nat} (hi : i < n) {m j : Nat} (hj : j < n) (h : Wk n r m i j) : ∃ k, k + 1 ≤ n ∧ Wk n r k i j := by
  rcases ats_stab (r := r) hi n with ⟨s, hs, hst⟩ | hc
  · have all : ∀ m j, j < n → Wk n r m i j → Ats n r i s j := by
      intro m
      induction m with
      | zero => exact fun j hj h => ⟨0, Nat.zero_le _, h⟩
      | succ m ih =>
        rintro j hj ⟨q, hq, h1, h2⟩
        obtain ⟨k, hk, w⟩ := ih q hq h1
        exact hst j hj ⟨k + 1, by omega, q, hq, w, h2⟩
    obtain ⟨k, hk, w⟩ := all m j hj h
    exact ⟨k, by omega, w⟩
  · have := cntP_le (Ats n r i n) n
    omega
theorem wk_pow {s i : Nat} (hi : i < n) : ∀ {k j : Nat}, j < n → (Wk n (Wk n r s) k i j ↔ Wk n r (s * k) i j)
  | 0, j, hj => Iff.rfl
  | k + 1, j, hj => by
    rw [Nat.mul_succ]
    constructor
    · rintro ⟨q, hq, h1, h2⟩
      exact ((wk_pow hi hq).mp h1).trans hq h2
    · intro h
      obtain ⟨q, hq, h1, h2⟩ := Wk.split hi hj h
      exact ⟨q, hq, (wk_pow hi hq).mpr h1, h2⟩
theorem wiel (n1 : 1 ≤ n) {t : Nat} (t1 : 1 ≤ t) (hF : FullW n r t) : FullW n r (n * n) := by
  have pre : ∀ j, j < n → ∃ q, q < n ∧ r q j := by
    intro j hj
    obtain ⟨u, rfl⟩ : ∃ u, t = u + 1 := ⟨t - 1, by omega⟩
    obtain ⟨q, hq, _, h⟩ := hF 0 (by omega) j hj
    exact ⟨q, hq, h⟩
  have up : ∀ i m k, (∀ j, j < n → Wk n r m i j) → ∀ j, j < n → Wk n r (m + k) i j := by
    intro i m k h
    induction k with
    | zero => exact h
    | succ k ih =>
      intro j hj
      obtain ⟨q, hq, h2⟩ := pre j hj
      exact ⟨q, hq, ih q hq, h2⟩
  -- a round
  obtain ⟨q, hq, hq0⟩ := pre 0 (by omega)
  obtain ⟨d, hd, hdw⟩ := Wk.short (r := r) (i := 0) (by omega) hq (hF 0 (by omega) q hq)
  have loop : Wk n r (d + 1) 0 0 := ⟨q, hq, hdw, hq0⟩
  generalize hs : d + 1 = s at loop
  have s1 : 1 ≤ s := by omega
  have sn : s ≤ n := by omega
  have lp : ∀ k, Wk n (Wk n r s) k 0 0 := by
    intro k
    induction k with
    | zero => rfl
    | succ k ih => exact ⟨0, by omega, ih, loop⟩
  have all0 : ∀ j, j < n → Wk n r (s * (n - 1)) 0 j := by
    intro j hj
    have hst : t ≤ s * t := Nat.le_mul_of_pos_left _ s1
    have h1 : Wk n r (s * t) 0 j := by
      have := up 0 t (s * t - t) (hF 0 (by omega)) j hj
      rw [show t + (s * t - t) = s * t by omega] at this
      exact this
    obtain ⟨k, hk, hw⟩ := Wk.short (r := Wk n r s) (i := 0) (by omega) hj ((wk_pow (by omega) hj).mpr h1)
    have h2 := (lp (n - 1 - k)).trans (by omega) hw
    rw [show n - 1 - k + k = n - 1 by omega] at h2
    exact (wk_pow (by omega) hj).mp h2
  intro i hi j hj
  obtain ⟨e, he, hew⟩ := Wk.short (r := r) hi (j := 0) (by omega) (hF i hi 0 (by omega))
  have hsn : s * (n - 1) ≤ n * (n - 1) := Nat.mul_le_mul_right _ sn
  have hnn : n * n = n * (n - 1) + n := by
    obtain ⟨u, rfl⟩ : ∃ u, n = u + 1 := ⟨n - 1, by omega⟩
    rw [Nat.add_sub_cancel, Nat.mul_succ]
  have h3 := up 0 (s * (n - 1)) (n * n - e - s * (n - 1)) all0 j hj
  have h4 := hew.trans (by omega) h3
  rw [show e + (s * (n - 1) + (n * n - e - s * (n - 1))) = n * n by omega] at h4
  exact h4
end
/-! ### the first full power -/
def relT (t : List (List Int)) (i j : Nat) : Prop := en t i j ≠ 0
open Classical in
noncomputable def wkB (n : Nat) (t : List (List Int)) (k i j : Nat) : Int := if Wk n (relT t) k i j then 1 else 0
open Classical in
noncomputable def fstF (n : Nat) (t : List (List Int)) (L : Nat) : Option Nat := (List.range L).find? fun k => decide (FullW n (relT t) (k + 1))
def ansN : Option Nat → D
  | none => .non
  | some k => .int ((k : Int) + 1)
theorem find_range {p : Nat → Bool} {L k : Nat} : (List.range L).find? p = some k ↔ k < L ∧ p k = true ∧ ∀ j, j < k → p j = false := by
  rw [List.find?_eq_some_iff_getElem]
  constructor
  · rintro ⟨h1, i, hi, e, h2⟩
    simp only [List.getElem_range] at e h2
    subst e
    exact ⟨by simpa using hi, h1, fun j hj => by simpa using h2 j hj⟩
  · rintro ⟨h1, h2, h3⟩
    exact ⟨h2, k, by simpa using h1, by simp, fun j hj => by simp [h3 j hj]⟩
open Classical in
theorem fst_eq {n : Nat} {t : List (List Int)} (n1 : 1 ≤ n) (n12 : n ≤ 12) : fstF n t 150 = fstF n t (n * n + 1) := by
  have hn : n * n ≤ 12 * 12 := Nat.mul_le_mul n12 n12
  unfold fstF
  cases h : (List.range (n * n + 1)).find? _ with
  | some k =>
    rw [find_range] at h
    rw [find_range]
    exact ⟨by omega, h.2⟩
  | none =>
    rw [List.find?_eq_none] at h ⊢
    intro k hk hf
    have h1 := of_decide_eq_true hf
    have h2 := wiel n1 (by omega) h1
    have h0 : 1 ≤ n * n := Nat.mul_pos n1 n1
    refine h (n * n - 1) (List.mem_range.mpr (by omega)) (decide_eq_true ?_)
    rw [show n * n - 1 + 1 = n * n by omega]
    exact h2
theorem sq_congr {n : Nat} {F G : Nat → Nat → Int} {m : Mu} {f : Addr} (h : Sq n F m f) (he : ∀ i k, i < n → k < n → F i k = G i k) : Sq n G m f := by
  obtain ⟨rs, h1, h2, h3⟩ := h
  refine ⟨rs, h1, h2, fun i hi => ?_⟩
  rw [h3 i hi]
  have : (List.range n).map (F i) = (List.range n).map (G i) := List.map_congr_left fun k hk => he i k (by omega) (List.mem_range.mp hk)
  rw [this]
theorem wk_one {n : Nat} {r : Nat → Nat → Prop} {i j : Nat} (hi : i < n) : Wk n r 1 i j ↔ r i j := by
  constructor
  · rintro ⟨q, _, h1, h2⟩
    have : i = q := h1
    subst this
    exact h2
  · exact fun h => ⟨i, hi, rfl, h⟩
theorem wkB_one {n : Nat} {t : List (List Int)} {i j : Nat} (hi : i < n) : wkB n t 1 i j = if en t i j = 0 then 0 else 1 := by
  unfold wkB
  by_cases c : en t i j = 0
  · rw [if_pos c, if_neg]
    rw [wk_one hi]
    exact fun h => h c
  · rw [if_neg c, if_pos]
    rw [wk_one hi]
    exact c
theorem wkB_01 (n : Nat) (t : List (List Int)) (k i j : Nat) : wkB n t k i j = 0 ∨ wkB n t k i j = 1 := by
  unfold wkB
  split
  · exact .inr rfl
  · exact .inl rfl
theorem full_iff {n : Nat} {t : List (List Int)} {k : Nat} : FullW n (relT t) k ↔ ∀ i, i < n → ∀ j, j < n → wkB n t k i j = 1 := by
  constructor
  · intro h i hi j hj
    unfold wkB
    rw [if_pos (h i hi j hj)]
  · intro h i hi j hj
    have := h i hi j hj
    unfold wkB at this
    split at this
    · assumption
    · omega
theorem boolsOf_bl : ∀ bs : List Bool, boolsOf (bs.map D.bl) = some bs
  | [] => rfl
  | b :: bs => by
    rw [List.map_cons, boolsOf, boolsOf_bl bs]
theorem wkB_ne {n : Nat} {t : List (List Int)} {k i j : Nat} : wkB n t k i j ≠ 0 ↔ Wk n (relT t) k i j := by
  unfold wkB
  split
  · rename_i h
    simp [h]
  · rename_i h
    simp [h]
theorem wkB_succ {n : Nat} {t : List (List Int)} {k i j : Nat} : (if ((List.range n).map fun q => wkB n t k i q * wkB n t 1 q j).any (fun z => z != 0) = true then (1 : Int) else 0) = wkB n t (k + 1) i j := by
  have h : ((List.range n).map fun q => wkB n t k i q * wkB n t 1 q j).any (fun z => z != 0) = true ↔ Wk n (relT t) (k + 1) i j := by
    rw [List.any_eq_true]
    constructor
    · rintro ⟨z, hz, h0⟩
      obtain ⟨q, hq, rfl⟩ := List.mem_map.mp hz
      rw [List.mem_range] at hq
      have hne : wkB n t k i q * wkB n t 1 q j ≠ 0 := by simpa using h0
      have h1 : wkB n t k i q ≠ 0 := fun e => hne (by rw [e, Int.zero_mul])
      have h2 : wkB n t 1 q j ≠ 0 := fun e => hne (by rw [e, Int.mul_zero])
      exact ⟨q, hq, wkB_ne.mp h1, (wk_one hq).mp (wkB_ne.mp h2)⟩
    · rintro ⟨q, hq, h1, h2⟩
      refine ⟨_, List.mem_map.mpr ⟨q, List.mem_range.mpr hq, rfl⟩, ?_⟩
      have e1 := wkB_ne.mpr h1
      have e2 := wkB_ne.mpr ((wk_one hq).mpr h2)
      rcases wkB_01 n t k i q with a | a
      · exact absurd a e1
      · rcases wkB_01 n t 1 q j with b | b
        · exact absurd b e2
        · rw [a, b]
          rfl
  by_cases c : Wk n (relT t) (k + 1) i j
  · rw [if_pos (h.mpr c)]
    unfold wkB
    rw [if_pos c]
  · rw [if_neg (fun e => c (h.mp e))]
    unfold wkB
    rw [if_neg c]
theorem full_rows {n : Nat} {t : List (List Int)} {k : Nat} : (((List.range n).map fun i => !decide ((0 : Int) ∈ (List.range n).map (wkB n t k i))).all id = true) ↔ FullW n (relT t) k := by
  rw [full_iff, List.all_map, List.all_eq_true]
  constructor
  · intro h i hi j hj
    have := h i (List.mem_range.mpr hi)
    rcases wkB_01 n t k i j with e | e
    · exfalso
      have h0 : (0 : Int) ∈ (List.range n).map (wkB n t k i) := List.mem_map.mpr ⟨j, List.mem_range.mpr hj, e⟩
      simp only [Function.comp, id, decide_eq_true h0] at this
      cases this
    · exact e
  · intro h i hi
    rw [List.mem_range] at hi
    have h0 : (0 : Int) ∉ (List.range n).map (wkB n t k i) := by
      intro hm
      obtain ⟨j, hj, e⟩ := List.mem_map.mp hm
      have := h i hi j (List.mem_range.mp hj)
      omega
    simp only [Function.comp, id, decide_eq_false h0]
    rfl
open Classical in
theorem fst_none {n : Nat} {t : List (List Int)} {L : Nat} (h : ∀ k, k < L → ¬ FullW n (relT t) (k + 1)) : fstF n t L = none := by
  unfold fstF
  rw [List.find?_eq_none]
  intro k hk hf
  exact h k (List.mem_range.mp hk) (of_decide_eq_true hf)
open Classical in
theorem fst_some {n : Nat} {t : List (List Int)} {L j : Nat} (hj : j < L) (h : ∀ k, k < j → ¬ FullW n (relT t) (k + 1)) (hf : FullW n (relT t) (j + 1)) : fstF n t L = some j := by
  unfold fstF
  rw [find_range]
  exact ⟨hj, decide_eq_true hf, fun k hk => decide_eq_false (h k hk)⟩
theorem wkB_zero {n : Nat} {t : List (List Int)} {i j : Nat} : wkB n t 0 i j = if (j : Int) = (i : Int) then 1 else 0 := by
  unfold wkB
  by_cases c : i = j
  · rw [if_pos (show Wk n (relT t) 0 i j from c), if_pos (by omega)]
  · rw [if_neg (show ¬ Wk n (relT t) 0 i j from c), if_neg (by omega)]
theorem sumN_pos {n : Nat} {f : Nat → Int} (h : ∀ i, i < n → 0 ≤ f i) : 0 ≤ sumN n f ∧ (0 < sumN n f ↔ ∃ i, i < n ∧ 0 < f i) := by
  induction n with
  | zero => exact ⟨Int.le_refl _, fun h => absurd h (by simp [sumN]), fun ⟨i, hi, _⟩ => by omega⟩
  | succ n ih =>
    have ih := ih fun i hi => h i (by omega)
    have hn := h n (by omega)
    refine ⟨by rw [sumN]; omega, ?_⟩
    rw [sumN]
    constructor
    · intro hp
      by_cases c : 0 < f n
      · exact ⟨n, by omega, c⟩
      · obtain ⟨i, hi, h1⟩ := ih.2.mp (by omega)
        exact ⟨i, by omega, h1⟩
    · rintro ⟨i, hi, h1⟩
      by_cases c : i = n
      · subst c
        omega
      · have := ih.2.mpr ⟨i, by omega, h1⟩
        omega
theorem wkB_sum {n : Nat} {t : List (List Int)} (hT : Tab n t) {k i j : Nat} (hj : j < n) : (if 0 < sumN n (fun q => wkB n t k i q * en t q j) then (1 : Int) else 0) = wkB n t (k + 1) i j := by
  have hnn : ∀ q, q < n → 0 ≤ wkB n t k i q * en t q j := by
    intro q hq
    have h1 := hT.en hq hj
    rcases wkB_01 n t k i q with e | e
    · rw [e]; omega
    · rw [e]; omega
  have hp := (sumN_pos hnn).2
  have h : 0 < sumN n (fun q => wkB n t k i q * en t q j) ↔ Wk n (relT t) (k + 1) i j := by
    rw [hp]
    constructor
    · rintro ⟨q, hq, h⟩
      have h1 : wkB n t k i q ≠ 0 := fun e => by rw [e] at h; omega
      have h2 : en t q j ≠ 0 := fun e => by rw [e] at h; omega
      exact ⟨q, hq, wkB_ne.mp h1, h2⟩
    · rintro ⟨q, hq, h1, h2⟩
      refine ⟨q, hq, ?_⟩
      have e1 := wkB_ne.mpr h1
      have h3 := hT.en hq hj
      have h2' : en t q j ≠ 0 := h2
      rcases wkB_01 n t k i q with e | e
      · exact absurd e e1
      · rw [e]
        omega
  by_cases c : Wk n (relT t) (k + 1) i j
  · rw [if_pos (h.mpr c)]
    unfold wkB
    rw [if_pos c]
  · rw [if_neg (fun e => c (h.mp e))]
    unfold wkB
    rw [if_neg c]
open Classical in
/-- the least of a row -/
noncomputable def mnB (n : Nat) (t : List (List Int)) (k i : Nat) : Int := if ∀ j, j < n → wkB n t k i j = 1 then 1 else 0
theorem mnB_of {n : Nat} {t : List (List Int)} {k i : Nat} {z : Int} (hz : z ∈ (List.range n).map (wkB n t k i)) (hm : ∀ y ∈ (List.range n).map (wkB n t k i), z ≤ y) : z = mnB n t k i := by
  obtain ⟨q, hq, e⟩ := List.mem_map.mp hz
  rw [List.mem_range] at hq
  unfold mnB
  split
  · rename_i h
    rw [← e]
    exact h q hq
  · rename_i h
    have : ∃ j, j < n ∧ wkB n t k i j ≠ 1 := Classical.byContradiction fun hn => h fun j hj => Classical.byContradiction fun h' => hn ⟨j, hj, h'⟩
    obtain ⟨j, hj, h1⟩ := this
    have h2 := hm _ (List.mem_map.mpr ⟨j, List.mem_range.mpr hj, rfl⟩)
    rcases wkB_01 n t k i j with a | a
    · rcases wkB_01 n t k i q with b | b <;> omega
    · exact absurd a h1
theorem mn_full {n : Nat} {t : List (List Int)} {k : Nat} {z : Int} (hz : z ∈ (List.range n).map (mnB n t k)) (hm : ∀ y ∈ (List.range n).map (mnB n t k), z ≤ y) : z = 1 ↔ FullW n (relT t) k := by
  obtain ⟨q, hq, e⟩ := List.mem_map.mp hz
  rw [List.mem_range] at hq
  rw [full_iff]
  have h01 : ∀ i, mnB n t k i = 0 ∨ mnB n t k i = 1 := fun i => by
    unfold mnB
    split
    · exact .inr rfl
    · exact .inl rfl
  have hone : ∀ i, mnB n t k i = 1 ↔ ∀ j, j < n → wkB n t k i j = 1 := fun i => by
    unfold mnB
    split
    · rename_i h
      exact ⟨fun _ => h, fun _ => rfl⟩
    · rename_i h
      constructor
      · intro h'; omega
      · intro h'; exact absurd h' h
  constructor
  · intro h1 i hi
    refine (hone i).mp ?_
    have := hm _ (List.mem_map.mpr ⟨i, List.mem_range.mpr hi, rfl⟩)
    rcases h01 i with a | a <;> omega
  · intro h
    rw [← e]
    exact (hone q).mpr (h q hq)

/-! ### law_deck -/
def t_law_deck_s5 : DTS :=
  (sAsg (dPlus (dMul (dMul (dVar 4) (dVar 4)) (dC (.int 2147483543))) (dMod (dMul (dVar 4) (dC (.int 48271))) (dC (.int 2147483579)))) (gSetIx (dVar 1) (dVar 3)))
def t_law_deck_s4 : DTS :=
  (sSeq (sSet 4 (dMod (dMul (dMod (dPlus (dMul (dVar 4) (dVar 4)) (dMul (dC (.int 31)) (dVar 3))) (dC (.int 2147483563))) (dC (.int 16807))) (dC (.int 2147483549)))) t_law_deck_s5)
def t_law_deck_b3 : DTS :=
  (sSeq (sSet 4 (dMod (dMul (dPlus (dPlus (dMod (dIx (dVar 1) (dVar 3)) (dC (.int 2147483587))) (dMul (dC (.int 853)) (dVar 3))) (dC (.int 11))) (dC (.int 69621))) (dC (.int 2147483629)))) t_law_deck_s4)
def t_law_deck_s6 : DTS :=
  (sRet (dNew (nLst (aCons (dVar 1) (aCons (dC (.int 0)) (aCons (dVar 2) aNil))))))
def t_law_deck_s2 : DTS :=
  (sSeq (sIf (tBool (dEq (dMod (dB gSum (aCons (dCut (dVar 0) oNone (oSome (dC (.int 63)))) aNil)) (dC (.int 2))) (dC (.int 1)))) (sFor (iRng1' (dB gLen (aCons (dVar 1) aNil))) (gName' 3) t_law_deck_b3) sNext) t_law_deck_s6)
def t_law_deck_s1 : DTS :=
  (sSeq (sSet 2 (dMod (dPlus (dPlus (dMul (dB gSum (aCons (dCut (dVar 0) oNone (oSome (dC (.int 63)))) aNil)) (dC (.int 48271))) (dMul (dC (.int 7)) (dB gLen (aCons (dVar 0) aNil)))) (dC (.int 5))) (dC (.int 2147483647)))) t_law_deck_s2)
def t_law_deck : DTS :=
  (sSeq (sSetN 1 (nCatNN (nCut (dVar 0) oNone (oSome (dC (.int 63)))) (nLst (aCons (dB gLen (aCons (dVar 0) aNil)) aNil)))) t_law_deck_s1)
def sp_law_deck : DSp := fun ds m R _ => ∃ ns : List Int, ds = [.rl (ns.map D.int)] ∧ ns.length ≤ 63 ∧ ∀ (a b : Addr) (m' : Mu), TDeck 0 m' a b → R (.ref a) m'
theorem len_law_deck : ∀ ds m R E, sp_law_deck ds m R E → ds.length = (["script"] : List Str).length := by
  rintro ds m R E ⟨a, rfl, _⟩; rfl
theorem rd_law_deck : ∀ ds m R E, sp_law_deck ds m R E → t_law_deck (dends R) (dstart 5 ds) m := by
  rintro ds m R E ⟨ns, rfl, hl, hR⟩
  show t_law_deck (dends R) [some (.rl (ns.map D.int)), none, none, none, none] m
  have hsl := sizeLine_eq
  simp only [t_law_deck, ↓bK_bl, ↓lstK_lst, ↓intK_int, ↓optK_some, ↓tBool_, ↓dAndV_, ↓dOrV_, ↓dNotV_, ↓gI_, ↓gI0_, ↓gAdd_int, ↓gAdd_str, ↓gAdd_tup, ↓gAdd_ref, ↓gNeg_, ↓gIx_tup, ↓gIx_rl, ↓gIx_ref, ↓gIx_str, ↓atK_0, ↓atK_1, ↓atK_2, ↓atK_3, ↓atK_4, ↓atK_5, ↓atK_6, ↓atK_7, ↓atK_last, ↓setK_0, ↓setK_1, ↓setK_2, ↓setK_3, ↓gLen_str, ↓gLen_tup, ↓gLen_rl, ↓gLen_ref, ↓gTupleOf_tup, ↓gTupleOf_rl, ↓gTupleOf_ref, ↓seqK_tup, ↓seqK_rl, ↓seqK_ref, ↓nListOf_, ↓isLst_ref, ↓gAppend_, ↓gInsert_, ↓isStr_str, ↓strK_str, ↓gStrCount_, ↓dJoinN_, ↓gPopAt_, ↓nRange1_, ↓gPop_, ↓refK_ref, ↓dExtN_, ↓gExt_, ↓gSetIx_, ↓itK_some, ↓iRow_, ↓rowIt_tup, ↓rowIt_rl, ↓rowIt_str, ↓iRng1_, ↓iRng2_, ↓iZip_, ↓iEnum_, ↓gNil_, ↓gCons_, ↓gTup_, ↓gTup_ref, ↓gAbs_, ↓gMax2_, ↓gMin2_, ↓gInt_int, ↓gInt_bl, ↓gLe_int, ↓gIsN_non, ↓gIsN_tup, ↓gIsN_int, ↓gIsN_str, ↓gIsN_ref, ↓gIsN_bl, ↓isi_bool_bool, ↓isi_bool_int, ↓isi_int_int, ↓isi_int_bool, ↓isi_tuple_tup, ↓isi_int_tup, ↓isi_bool_tup, ↓isi_str_str, ↓isi_tuple_int, ↓isi_tuple_non, ↓gEq_int, ↓gNe_int, ↓gEq_bl, ↓gNe_bl, ↓gEq_str, ↓gNe_str, ↓gEq_int_non, ↓oNone_, ↓oSome_, ↓gCut_str, ↓gCut_tup, ↓gCut_ref, ↓gCut_rl, ↓rowK_rl, ↓rowK_ref, ↓nCut_, ↓nSorted_, ↓gSorted1_, ↓nRev_, ↓nCatEN_, ↓nRep_, ↓tupK_tup, ↓keysD_two, ↓dtK_dT, ↓gGetT_, ↓gPutT_, ↓nKeysT_, ↓gIsB_, ↓nRepE_, ↓dIxN_, ↓gSumN_, ↓gAllN_, ↓gAnyN_, ↓gAnyI_, ↓gMaxN_, ↓gMax1_rl, ↓gMax1_ref, ↓gMinN_, ↓gMin1_rl, ↓gMin1_ref, ↓gSum_rl, ↓gSum_ref, ↓dChain_, ↓sAug_, ↓gIndex_, ↓dVar_0, ↓dVar_1, ↓dVar_2, ↓dVar_3, ↓dVar_4, ↓dVar_5, ↓dVar_6, ↓dVar_7, ↓dVar_8, ↓dVar_9, ↓dVar_10, ↓dVar_11, ↓dVar_12, ↓dVar_13, ↓dVar_14, ↓dVar_15, ↓dVar_16, ↓dVar_17, ↓dVar_18, ↓dVar_19, ↓dVar_20, ↓dVar_21, ↓dVar_22, ↓dVar_23, ↓dVar_24, ↓dVar_25, ↓sz_0, ↓sz_1, ↓sz_2, ↓sz_3, ↓sz_4, ↓sz_5, ↓sz_6, ↓sz_7, ↓sz_8, ↓sz_9, ↓sz_10, ↓sz_11, ↓sz_12, ↓sz_13, ↓u_dNewT, ↓u_sPutT, ↓u_sSeq, ↓u_sNext, ↓u_sSet, ↓u_sSetN, ↓u_sAsg, ↓u_sIf, ↓u_sRet, ↓u_sRetN, ↓u_sDrop, ↓u_sPar, ↓u_sFor, ↓u_sBreak, ↓u_sCont, ↓u_dC, ↓u_d2, ↓u_d1, ↓u_dTup, ↓u_dNew, ↓u_aNil, ↓u_aCons, ↓u_nLst, ↓u_tAnd', ↓u_tOr', ↓u_tNot', ↓u_dIf, ↓u_gName', ↓u_dCall, ↓u_dB, ↓u_dLenN, ↓u_dTupN, ↓u_dM, ↓u_iNew, ↓u_nLc, ↓u_dN1, ↓u_dCut, ↓u_nCutN, ↓u_nCatNN, ↓u_d2N, ↓u_dNN, ↓u_tYes', ↓u_dS, List.set_cons_zero, List.set_cons_succ, dwipe, ite_true, ite_false, Bool.false_eq_true, Bool.true_eq_false, Bool.not_true, Bool.not_false, beq_self_eq_true, decide_eq_true_eq, Bool.not_eq_true', decide_eq_false_iff_not, mput_same, mput_put, dends, List.length_cons, List.length_nil, true_and, and_true, Nat.reduceAdd, Nat.reduceEqDiff, Int.reduceToNat, ↓x_tabLen, ↓x_fr0, ↓x_fr1, ↓x_kn0, ↓x_kn1, ↓x_map, ↓x_at0, ↓x_at1, ↓x_len, ↓x_row, ↓x_cut, ↓x_tup2, ↓x_tupfr, ↓x_isiT, ↓x_isiK, ↓x_isiF, ↓x_notN, ↓x_getT, ↓x_putT, ↓x_notNM]
  rw [cutD_take (by decide)]
  have e1 : (ns.take (Int.toNat 63)).map D.int ++ [D.int ((ns.map D.int).length : Int)] = (ns.take 63 ++ [(ns.length : Int)]).map D.int := by simp
  rw [e1]
  refine ⟨by simp; omega, fun b hb => ?_⟩
  have hcl : (ns.take 63 ++ [(ns.length : Int)]).length ≤ 64 := by simp; omega
  have hcl1 : 1 ≤ (ns.take 63 ++ [(ns.length : Int)]).length := by simp
  generalize ns.take 63 ++ [(ns.length : Int)] = cs at hcl hcl1 ⊢
  simp only [t_law_deck_s1, ↓bK_bl, ↓lstK_lst, ↓intK_int, ↓optK_some, ↓tBool_, ↓dAndV_, ↓dOrV_, ↓dNotV_, ↓gI_, ↓gI0_, ↓gAdd_int, ↓gAdd_str, ↓gAdd_tup, ↓gAdd_ref, ↓gNeg_, ↓gIx_tup, ↓gIx_rl, ↓gIx_ref, ↓gIx_str, ↓atK_0, ↓atK_1, ↓atK_2, ↓atK_3, ↓atK_4, ↓atK_5, ↓atK_6, ↓atK_7, ↓atK_last, ↓setK_0, ↓setK_1, ↓setK_2, ↓setK_3, ↓gLen_str, ↓gLen_tup, ↓gLen_rl, ↓gLen_ref, ↓gTupleOf_tup, ↓gTupleOf_rl, ↓gTupleOf_ref, ↓seqK_tup, ↓seqK_rl, ↓seqK_ref, ↓nListOf_, ↓isLst_ref, ↓gAppend_, ↓gInsert_, ↓isStr_str, ↓strK_str, ↓gStrCount_, ↓dJoinN_, ↓gPopAt_, ↓nRange1_, ↓gPop_, ↓refK_ref, ↓dExtN_, ↓gExt_, ↓gSetIx_, ↓itK_some, ↓iRow_, ↓rowIt_tup, ↓rowIt_rl, ↓rowIt_str, ↓iRng1_, ↓iRng2_, ↓iZip_, ↓iEnum_, ↓gNil_, ↓gCons_, ↓gTup_, ↓gTup_ref, ↓gAbs_, ↓gMax2_, ↓gMin2_, ↓gInt_int, ↓gInt_bl, ↓gLe_int, ↓gIsN_non, ↓gIsN_tup, ↓gIsN_int, ↓gIsN_str, ↓gIsN_ref, ↓gIsN_bl, ↓isi_bool_bool, ↓isi_bool_int, ↓isi_int_int, ↓isi_int_bool, ↓isi_tuple_tup, ↓isi_int_tup, ↓isi_bool_tup, ↓isi_str_str, ↓isi_tuple_int, ↓isi_tuple_non, ↓gEq_int, ↓gNe_int, ↓gEq_bl, ↓gNe_bl, ↓gEq_str, ↓gNe_str, ↓gEq_int_non, ↓oNone_, ↓oSome_, ↓gCut_str, ↓gCut_tup, ↓gCut_ref, ↓gCut_rl, ↓rowK_rl, ↓rowK_ref, ↓nCut_, ↓nSorted_, ↓gSorted1_, ↓nRev_, ↓nCatEN_, ↓nRep_, ↓tupK_tup, ↓keysD_two, ↓dtK_dT, ↓gGetT_, ↓gPutT_, ↓nKeysT_, ↓gIsB_, ↓nRepE_, ↓dIxN_, ↓gSumN_, ↓gAllN_, ↓gAnyN_, ↓gAnyI_, ↓gMaxN_, ↓gMax1_rl, ↓gMax1_ref, ↓gMinN_, ↓gMin1_rl, ↓gMin1_ref, ↓gSum_rl, ↓gSum_ref, ↓dChain_, ↓sAug_, ↓gIndex_, ↓dVar_0, ↓dVar_1, ↓dVar_2, ↓dVar_3, ↓dVar_4, ↓dVar_5, ↓dVar_6, ↓dVar_7, ↓dVar_8, ↓dVar_9, ↓dVar_10, ↓dVar_11, ↓dVar_12, ↓dVar_13, ↓dVar_14, ↓dVar_15, ↓dVar_16, ↓dVar_17, ↓dVar_18, ↓dVar_19, ↓dVar_20, ↓dVar_21, ↓dVar_22, ↓dVar_23, ↓dVar_24, ↓dVar_25, ↓sz_0, ↓sz_1, ↓sz_2, ↓sz_3, ↓sz_4, ↓sz_5, ↓sz_6, ↓sz_7, ↓sz_8, ↓sz_9, ↓sz_10, ↓sz_11, ↓sz_12, ↓sz_13, ↓u_dNewT, ↓u_sPutT, ↓u_sSeq, ↓u_sNext, ↓u_sSet, ↓u_sSetN, ↓u_sAsg, ↓u_sIf, ↓u_sRet, ↓u_sRetN, ↓u_sDrop, ↓u_sPar, ↓u_sFor, ↓u_sBreak, ↓u_sCont, ↓u_dC, ↓u_d2, ↓u_d1, ↓u_dTup, ↓u_dNew, ↓u_aNil, ↓u_aCons, ↓u_nLst, ↓u_tAnd', ↓u_tOr', ↓u_tNot', ↓u_dIf, ↓u_gName', ↓u_dCall, ↓u_dB, ↓u_dLenN, ↓u_dTupN, ↓u_dM, ↓u_iNew, ↓u_nLc, ↓u_dN1, ↓u_dCut, ↓u_nCutN, ↓u_nCatNN, ↓u_d2N, ↓u_dNN, ↓u_tYes', ↓u_dS, List.set_cons_zero, List.set_cons_succ, dwipe, ite_true, ite_false, Bool.false_eq_true, Bool.true_eq_false, Bool.not_true, Bool.not_false, beq_self_eq_true, decide_eq_true_eq, Bool.not_eq_true', decide_eq_false_iff_not, mput_same, mput_put, dends, List.length_cons, List.length_nil, true_and, and_true, Nat.reduceAdd, Nat.reduceEqDiff, Int.reduceToNat, ↓x_tabLen, ↓x_fr0, ↓x_fr1, ↓x_kn0, ↓x_kn1, ↓x_map, ↓x_at0, ↓x_at1, ↓x_len, ↓x_row, ↓x_cut, ↓x_tup2, ↓x_tupfr, ↓x_isiT, ↓x_isiK, ↓x_isiF, ↓x_notN, ↓x_getT, ↓x_putT, ↓x_notNM]
  intro e he
  rw [cutD_take (by decide), intsOf_of]
  try simp only [↓bK_bl, ↓lstK_lst, ↓intK_int, ↓optK_some, ↓tBool_, ↓dAndV_, ↓dOrV_, ↓dNotV_, ↓gI_, ↓gI0_, ↓gAdd_int, ↓gAdd_str, ↓gAdd_tup, ↓gAdd_ref, ↓gNeg_, ↓gIx_tup, ↓gIx_rl, ↓gIx_ref, ↓gIx_str, ↓atK_0, ↓atK_1, ↓atK_2, ↓atK_3, ↓atK_4, ↓atK_5, ↓atK_6, ↓atK_7, ↓atK_last, ↓setK_0, ↓setK_1, ↓setK_2, ↓setK_3, ↓gLen_str, ↓gLen_tup, ↓gLen_rl, ↓gLen_ref, ↓gTupleOf_tup, ↓gTupleOf_rl, ↓gTupleOf_ref, ↓seqK_tup, ↓seqK_rl, ↓seqK_ref, ↓nListOf_, ↓isLst_ref, ↓gAppend_, ↓gInsert_, ↓isStr_str, ↓strK_str, ↓gStrCount_, ↓dJoinN_, ↓gPopAt_, ↓nRange1_, ↓gPop_, ↓refK_ref, ↓dExtN_, ↓gExt_, ↓gSetIx_, ↓itK_some, ↓iRow_, ↓rowIt_tup, ↓rowIt_rl, ↓rowIt_str, ↓iRng1_, ↓iRng2_, ↓iZip_, ↓iEnum_, ↓gNil_, ↓gCons_, ↓gTup_, ↓gTup_ref, ↓gAbs_, ↓gMax2_, ↓gMin2_, ↓gInt_int, ↓gInt_bl, ↓gLe_int, ↓gIsN_non, ↓gIsN_tup, ↓gIsN_int, ↓gIsN_str, ↓gIsN_ref, ↓gIsN_bl, ↓isi_bool_bool, ↓isi_bool_int, ↓isi_int_int, ↓isi_int_bool, ↓isi_tuple_tup, ↓isi_int_tup, ↓isi_bool_tup, ↓isi_str_str, ↓isi_tuple_int, ↓isi_tuple_non, ↓gEq_int, ↓gNe_int, ↓gEq_bl, ↓gNe_bl, ↓gEq_str, ↓gNe_str, ↓gEq_int_non, ↓oNone_, ↓oSome_, ↓gCut_str, ↓gCut_tup, ↓gCut_ref, ↓gCut_rl, ↓rowK_rl, ↓rowK_ref, ↓nCut_, ↓nSorted_, ↓gSorted1_, ↓nRev_, ↓nCatEN_, ↓nRep_, ↓tupK_tup, ↓keysD_two, ↓dtK_dT, ↓gGetT_, ↓gPutT_, ↓nKeysT_, ↓gIsB_, ↓nRepE_, ↓dIxN_, ↓gSumN_, ↓gAllN_, ↓gAnyN_, ↓gAnyI_, ↓gMaxN_, ↓gMax1_rl, ↓gMax1_ref, ↓gMinN_, ↓gMin1_rl, ↓gMin1_ref, ↓gSum_rl, ↓gSum_ref, ↓dChain_, ↓sAug_, ↓gIndex_, ↓dVar_0, ↓dVar_1, ↓dVar_2, ↓dVar_3, ↓dVar_4, ↓dVar_5, ↓dVar_6, ↓dVar_7, ↓dVar_8, ↓dVar_9, ↓dVar_10, ↓dVar_11, ↓dVar_12, ↓dVar_13, ↓dVar_14, ↓dVar_15, ↓dVar_16, ↓dVar_17, ↓dVar_18, ↓dVar_19, ↓dVar_20, ↓dVar_21, ↓dVar_22, ↓dVar_23, ↓dVar_24, ↓dVar_25, ↓sz_0, ↓sz_1, ↓sz_2, ↓sz_3, ↓sz_4, ↓sz_5, ↓sz_6, ↓sz_7, ↓sz_8, ↓sz_9, ↓sz_10, ↓sz_11, ↓sz_12, ↓sz_13, ↓u_dNewT, ↓u_sPutT, ↓u_sSeq, ↓u_sNext, ↓u_sSet, ↓u_sSetN, ↓u_sAsg, ↓u_sIf, ↓u_sRet, ↓u_sRetN, ↓u_sDrop, ↓u_sPar, ↓u_sFor, ↓u_sBreak, ↓u_sCont, ↓u_dC, ↓u_d2, ↓u_d1, ↓u_dTup, ↓u_dNew, ↓u_aNil, ↓u_aCons, ↓u_nLst, ↓u_tAnd', ↓u_tOr', ↓u_tNot', ↓u_dIf, ↓u_gName', ↓u_dCall, ↓u_dB, ↓u_dLenN, ↓u_dTupN, ↓u_dM, ↓u_iNew, ↓u_nLc, ↓u_dN1, ↓u_dCut, ↓u_nCutN, ↓u_nCatNN, ↓u_d2N, ↓u_dNN, ↓u_tYes', ↓u_dS, List.set_cons_zero, List.set_cons_succ, dwipe, ite_true, ite_false, Bool.false_eq_true, Bool.true_eq_false, Bool.not_true, Bool.not_false, beq_self_eq_true, decide_eq_true_eq, Bool.not_eq_true', decide_eq_false_iff_not, mput_same, mput_put, dends, List.length_cons, List.length_nil, true_and, and_true, Nat.reduceAdd, Nat.reduceEqDiff, Int.reduceToNat, ↓x_tabLen, ↓x_fr0, ↓x_fr1, ↓x_kn0, ↓x_kn1, ↓x_map, ↓x_at0, ↓x_at1, ↓x_len, ↓x_row, ↓x_cut, ↓x_tup2, ↓x_tupfr, ↓x_isiT, ↓x_isiK, ↓x_isiF, ↓x_notN, ↓x_getT, ↓x_putT, ↓x_notNM]
  rw [List.length_map]
  refine ⟨mul_r (by decide) (by decide), mul_l (by decide) (by decide), by decide, ?_⟩
  have s0 := Int.emod_nonneg ((ns.take 63).sum * 48271 + 7 * (ns.length : Int) + 5) (show (2147483647 : Int) ≠ 0 by decide)
  have s1 := Int.emod_lt_of_pos ((ns.take 63).sum * 48271 + 7 * (ns.length : Int) + 5) (show (0 : Int) < 2147483647 by decide)
  generalize ((ns.take 63).sum * 48271 + 7 * (ns.length : Int) + 5) % 2147483647 = sd at s0 s1 ⊢
  have hB : mput (mput m b (O.lst (List.map D.int cs))) e (O.lst (List.map D.int (List.take 63 ns))) b = some (.lst (cs.map D.int)) := by rw [mput_ne (ne_of mput_same he)]; exact mput_same
  generalize mput (mput m b (O.lst (List.map D.int cs))) e (O.lst (List.map D.int (List.take 63 ns))) = M at hB ⊢
  have fin_ : ∀ (cs : List Int) (q3 q4 : Option D) (M : Mu), cs.length ≤ 64 → 1 ≤ cs.length → M b = some (.lst (cs.map D.int)) → t_law_deck_s6 (dends R) [some (.rl (ns.map D.int)), some (.ref b), some (.int sd), q3, q4] M := by
    intro cs q3 q4 M h1 h2 hM
    simp only [t_law_deck_s6, ↓bK_bl, ↓lstK_lst, ↓intK_int, ↓optK_some, ↓tBool_, ↓dAndV_, ↓dOrV_, ↓dNotV_, ↓gI_, ↓gI0_, ↓gAdd_int, ↓gAdd_str, ↓gAdd_tup, ↓gAdd_ref, ↓gNeg_, ↓gIx_tup, ↓gIx_rl, ↓gIx_ref, ↓gIx_str, ↓atK_0, ↓atK_1, ↓atK_2, ↓atK_3, ↓atK_4, ↓atK_5, ↓atK_6, ↓atK_7, ↓atK_last, ↓setK_0, ↓setK_1, ↓setK_2, ↓setK_3, ↓gLen_str, ↓gLen_tup, ↓gLen_rl, ↓gLen_ref, ↓gTupleOf_tup, ↓gTupleOf_rl, ↓gTupleOf_ref, ↓seqK_tup, ↓seqK_rl, ↓seqK_ref, ↓nListOf_, ↓isLst_ref, ↓gAppend_, ↓gInsert_, ↓isStr_str, ↓strK_str, ↓gStrCount_, ↓dJoinN_, ↓gPopAt_, ↓nRange1_, ↓gPop_, ↓refK_ref, ↓dExtN_, ↓gExt_, ↓gSetIx_, ↓itK_some, ↓iRow_, ↓rowIt_tup, ↓rowIt_rl, ↓rowIt_str, ↓iRng1_, ↓iRng2_, ↓iZip_, ↓iEnum_, ↓gNil_, ↓gCons_, ↓gTup_, ↓gTup_ref, ↓gAbs_, ↓gMax2_, ↓gMin2_, ↓gInt_int, ↓gInt_bl, ↓gLe_int, ↓gIsN_non, ↓gIsN_tup, ↓gIsN_int, ↓gIsN_str, ↓gIsN_ref, ↓gIsN_bl, ↓isi_bool_bool, ↓isi_bool_int, ↓isi_int_int, ↓isi_int_bool, ↓isi_tuple_tup, ↓isi_int_tup, ↓isi_bool_tup, ↓isi_str_str, ↓isi_tuple_int, ↓isi_tuple_non, ↓gEq_int, ↓gNe_int, ↓gEq_bl, ↓gNe_bl, ↓gEq_str, ↓gNe_str, ↓gEq_int_non, ↓oNone_, ↓oSome_, ↓gCut_str, ↓gCut_tup, ↓gCut_ref, ↓gCut_rl, ↓rowK_rl, ↓rowK_ref, ↓nCut_, ↓nSorted_, ↓gSorted1_, ↓nRev_, ↓nCatEN_, ↓nRep_, ↓tupK_tup, ↓keysD_two, ↓dtK_dT, ↓gGetT_, ↓gPutT_, ↓nKeysT_, ↓gIsB_, ↓nRepE_, ↓dIxN_, ↓gSumN_, ↓gAllN_, ↓gAnyN_, ↓gAnyI_, ↓gMaxN_, ↓gMax1_rl, ↓gMax1_ref, ↓gMinN_, ↓gMin1_rl, ↓gMin1_ref, ↓gSum_rl, ↓gSum_ref, ↓dChain_, ↓sAug_, ↓gIndex_, ↓dVar_0, ↓dVar_1, ↓dVar_2, ↓dVar_3, ↓dVar_4, ↓dVar_5, ↓dVar_6, ↓dVar_7, ↓dVar_8, ↓dVar_9, ↓dVar_10, ↓dVar_11, ↓dVar_12, ↓dVar_13, ↓dVar_14, ↓dVar_15, ↓dVar_16, ↓dVar_17, ↓dVar_18, ↓dVar_19, ↓dVar_20, ↓dVar_21, ↓dVar_22, ↓dVar_23, ↓dVar_24, ↓dVar_25, ↓sz_0, ↓sz_1, ↓sz_2, ↓sz_3, ↓sz_4, ↓sz_5, ↓sz_6, ↓sz_7, ↓sz_8, ↓sz_9, ↓sz_10, ↓sz_11, ↓sz_12, ↓sz_13, ↓u_dNewT, ↓u_sPutT, ↓u_sSeq, ↓u_sNext, ↓u_sSet, ↓u_sSetN, ↓u_sAsg, ↓u_sIf, ↓u_sRet, ↓u_sRetN, ↓u_sDrop, ↓u_sPar, ↓u_sFor, ↓u_sBreak, ↓u_sCont, ↓u_dC, ↓u_d2, ↓u_d1, ↓u_dTup, ↓u_dNew, ↓u_aNil, ↓u_aCons, ↓u_nLst, ↓u_tAnd', ↓u_tOr', ↓u_tNot', ↓u_dIf, ↓u_gName', ↓u_dCall, ↓u_dB, ↓u_dLenN, ↓u_dTupN, ↓u_dM, ↓u_iNew, ↓u_nLc, ↓u_dN1, ↓u_dCut, ↓u_nCutN, ↓u_nCatNN, ↓u_d2N, ↓u_dNN, ↓u_tYes', ↓u_dS, List.set_cons_zero, List.set_cons_succ, dwipe, ite_true, ite_false, Bool.false_eq_true, Bool.true_eq_false, Bool.not_true, Bool.not_false, beq_self_eq_true, decide_eq_true_eq, Bool.not_eq_true', decide_eq_false_iff_not, mput_same, mput_put, dends, List.length_cons, List.length_nil, true_and, and_true, Nat.reduceAdd, Nat.reduceEqDiff, Int.reduceToNat, ↓x_tabLen, ↓x_fr0, ↓x_fr1, ↓x_kn0, ↓x_kn1, ↓x_map, ↓x_at0, ↓x_at1, ↓x_len, ↓x_row, ↓x_cut, ↓x_tup2, ↓x_tupfr, ↓x_isiT, ↓x_isiK, ↓x_isiF, ↓x_notN, ↓x_getT, ↓x_putT, ↓x_notNM]
    intro a ha
    refine fin_of (hR a b _ ⟨cs, 0, sd, mput_same, by rw [mput_ne (ne_of hM ha)]; exact hM, h2, h1, by omega, by omega, by omega, by omega⟩)
  simp only [t_law_deck_s2, ↓bK_bl, ↓lstK_lst, ↓intK_int, ↓optK_some, ↓tBool_, ↓dAndV_, ↓dOrV_, ↓dNotV_, ↓gI_, ↓gI0_, ↓gAdd_int, ↓gAdd_str, ↓gAdd_tup, ↓gAdd_ref, ↓gNeg_, ↓gIx_tup, ↓gIx_rl, ↓gIx_ref, ↓gIx_str, ↓atK_0, ↓atK_1, ↓atK_2, ↓atK_3, ↓atK_4, ↓atK_5, ↓atK_6, ↓atK_7, ↓atK_last, ↓setK_0, ↓setK_1, ↓setK_2, ↓setK_3, ↓gLen_str, ↓gLen_tup, ↓gLen_rl, ↓gLen_ref, ↓gTupleOf_tup, ↓gTupleOf_rl, ↓gTupleOf_ref, ↓seqK_tup, ↓seqK_rl, ↓seqK_ref, ↓nListOf_, ↓isLst_ref, ↓gAppend_, ↓gInsert_, ↓isStr_str, ↓strK_str, ↓gStrCount_, ↓dJoinN_, ↓gPopAt_, ↓nRange1_, ↓gPop_, ↓refK_ref, ↓dExtN_, ↓gExt_, ↓gSetIx_, ↓itK_some, ↓iRow_, ↓rowIt_tup, ↓rowIt_rl, ↓rowIt_str, ↓iRng1_, ↓iRng2_, ↓iZip_, ↓iEnum_, ↓gNil_, ↓gCons_, ↓gTup_, ↓gTup_ref, ↓gAbs_, ↓gMax2_, ↓gMin2_, ↓gInt_int, ↓gInt_bl, ↓gLe_int, ↓gIsN_non, ↓gIsN_tup, ↓gIsN_int, ↓gIsN_str, ↓gIsN_ref, ↓gIsN_bl, ↓isi_bool_bool, ↓isi_bool_int, ↓isi_int_int, ↓isi_int_bool, ↓isi_tuple_tup, ↓isi_int_tup, ↓isi_bool_tup, ↓isi_str_str, ↓isi_tuple_int, ↓isi_tuple_non, ↓gEq_int, ↓gNe_int, ↓gEq_bl, ↓gNe_bl, ↓gEq_str, ↓gNe_str, ↓gEq_int_non, ↓oNone_, ↓oSome_, ↓gCut_str, ↓gCut_tup, ↓gCut_ref, ↓gCut_rl, ↓rowK_rl, ↓rowK_ref, ↓nCut_, ↓nSorted_, ↓gSorted1_, ↓nRev_, ↓nCatEN_, ↓nRep_, ↓tupK_tup, ↓keysD_two, ↓dtK_dT, ↓gGetT_, ↓gPutT_, ↓nKeysT_, ↓gIsB_, ↓nRepE_, ↓dIxN_, ↓gSumN_, ↓gAllN_, ↓gAnyN_, ↓gAnyI_, ↓gMaxN_, ↓gMax1_rl, ↓gMax1_ref, ↓gMinN_, ↓gMin1_rl, ↓gMin1_ref, ↓gSum_rl, ↓gSum_ref, ↓dChain_, ↓sAug_, ↓gIndex_, ↓dVar_0, ↓dVar_1, ↓dVar_2, ↓dVar_3, ↓dVar_4, ↓dVar_5, ↓dVar_6, ↓dVar_7, ↓dVar_8, ↓dVar_9, ↓dVar_10, ↓dVar_11, ↓dVar_12, ↓dVar_13, ↓dVar_14, ↓dVar_15, ↓dVar_16, ↓dVar_17, ↓dVar_18, ↓dVar_19, ↓dVar_20, ↓dVar_21, ↓dVar_22, ↓dVar_23, ↓dVar_24, ↓dVar_25, ↓sz_0, ↓sz_1, ↓sz_2, ↓sz_3, ↓sz_4, ↓sz_5, ↓sz_6, ↓sz_7, ↓sz_8, ↓sz_9, ↓sz_10, ↓sz_11, ↓sz_12, ↓sz_13, ↓u_dNewT, ↓u_sPutT, ↓u_sSeq, ↓u_sNext, ↓u_sSet, ↓u_sSetN, ↓u_sAsg, ↓u_sIf, ↓u_sRet, ↓u_sRetN, ↓u_sDrop, ↓u_sPar, ↓u_sFor, ↓u_sBreak, ↓u_sCont, ↓u_dC, ↓u_d2, ↓u_d1, ↓u_dTup, ↓u_dNew, ↓u_aNil, ↓u_aCons, ↓u_nLst, ↓u_tAnd', ↓u_tOr', ↓u_tNot', ↓u_dIf, ↓u_gName', ↓u_dCall, ↓u_dB, ↓u_dLenN, ↓u_dTupN, ↓u_dM, ↓u_iNew, ↓u_nLc, ↓u_dN1, ↓u_dCut, ↓u_nCutN, ↓u_nCatNN, ↓u_d2N, ↓u_dNN, ↓u_tYes', ↓u_dS, List.set_cons_zero, List.set_cons_succ, dwipe, ite_true, ite_false, Bool.false_eq_true, Bool.true_eq_false, Bool.not_true, Bool.not_false, beq_self_eq_true, decide_eq_true_eq, Bool.not_eq_true', decide_eq_false_iff_not, mput_same, mput_put, dends, List.length_cons, List.length_nil, true_and, and_true, Nat.reduceAdd, Nat.reduceEqDiff, Int.reduceToNat, ↓x_tabLen, ↓x_fr0, ↓x_fr1, ↓x_kn0, ↓x_kn1, ↓x_map, ↓x_at0, ↓x_at1, ↓x_len, ↓x_row, ↓x_cut, ↓x_tup2, ↓x_tupfr, ↓x_isiT, ↓x_isiK, ↓x_isiF, ↓x_notN, ↓x_getT, ↓x_putT, ↓x_notNM]
  intro e2 he2
  rw [cutD_take (by decide), intsOf_of]
  try simp only [↓bK_bl, ↓lstK_lst, ↓intK_int, ↓optK_some, ↓tBool_, ↓dAndV_, ↓dOrV_, ↓dNotV_, ↓gI_, ↓gI0_, ↓gAdd_int, ↓gAdd_str, ↓gAdd_tup, ↓gAdd_ref, ↓gNeg_, ↓gIx_tup, ↓gIx_rl, ↓gIx_ref, ↓gIx_str, ↓atK_0, ↓atK_1, ↓atK_2, ↓atK_3, ↓atK_4, ↓atK_5, ↓atK_6, ↓atK_7, ↓atK_last, ↓setK_0, ↓setK_1, ↓setK_2, ↓setK_3, ↓gLen_str, ↓gLen_tup, ↓gLen_rl, ↓gLen_ref, ↓gTupleOf_tup, ↓gTupleOf_rl, ↓gTupleOf_ref, ↓seqK_tup, ↓seqK_rl, ↓seqK_ref, ↓nListOf_, ↓isLst_ref, ↓gAppend_, ↓gInsert_, ↓isStr_str, ↓strK_str, ↓gStrCount_, ↓dJoinN_, ↓gPopAt_, ↓nRange1_, ↓gPop_, ↓refK_ref, ↓dExtN_, ↓gExt_, ↓gSetIx_, ↓itK_some, ↓iRow_, ↓rowIt_tup, ↓rowIt_rl, ↓rowIt_str, ↓iRng1_, ↓iRng2_, ↓iZip_, ↓iEnum_, ↓gNil_, ↓gCons_, ↓gTup_, ↓gTup_ref, ↓gAbs_, ↓gMax2_, ↓gMin2_, ↓gInt_int, ↓gInt_bl, ↓gLe_int, ↓gIsN_non, ↓gIsN_tup, ↓gIsN_int, ↓gIsN_str, ↓gIsN_ref, ↓gIsN_bl, ↓isi_bool_bool, ↓isi_bool_int, ↓isi_int_int, ↓isi_int_bool, ↓isi_tuple_tup, ↓isi_int_tup, ↓isi_bool_tup, ↓isi_str_str, ↓isi_tuple_int, ↓isi_tuple_non, ↓gEq_int, ↓gNe_int, ↓gEq_bl, ↓gNe_bl, ↓gEq_str, ↓gNe_str, ↓gEq_int_non, ↓oNone_, ↓oSome_, ↓gCut_str, ↓gCut_tup, ↓gCut_ref, ↓gCut_rl, ↓rowK_rl, ↓rowK_ref, ↓nCut_, ↓nSorted_, ↓gSorted1_, ↓nRev_, ↓nCatEN_, ↓nRep_, ↓tupK_tup, ↓keysD_two, ↓dtK_dT, ↓gGetT_, ↓gPutT_, ↓nKeysT_, ↓gIsB_, ↓nRepE_, ↓dIxN_, ↓gSumN_, ↓gAllN_, ↓gAnyN_, ↓gAnyI_, ↓gMaxN_, ↓gMax1_rl, ↓gMax1_ref, ↓gMinN_, ↓gMin1_rl, ↓gMin1_ref, ↓gSum_rl, ↓gSum_ref, ↓dChain_, ↓sAug_, ↓gIndex_, ↓dVar_0, ↓dVar_1, ↓dVar_2, ↓dVar_3, ↓dVar_4, ↓dVar_5, ↓dVar_6, ↓dVar_7, ↓dVar_8, ↓dVar_9, ↓dVar_10, ↓dVar_11, ↓dVar_12, ↓dVar_13, ↓dVar_14, ↓dVar_15, ↓dVar_16, ↓dVar_17, ↓dVar_18, ↓dVar_19, ↓dVar_20, ↓dVar_21, ↓dVar_22, ↓dVar_23, ↓dVar_24, ↓dVar_25, ↓sz_0, ↓sz_1, ↓sz_2, ↓sz_3, ↓sz_4, ↓sz_5, ↓sz_6, ↓sz_7, ↓sz_8, ↓sz_9, ↓sz_10, ↓sz_11, ↓sz_12, ↓sz_13, ↓u_dNewT, ↓u_sPutT, ↓u_sSeq, ↓u_sNext, ↓u_sSet, ↓u_sSetN, ↓u_sAsg, ↓u_sIf, ↓u_sRet, ↓u_sRetN, ↓u_sDrop, ↓u_sPar, ↓u_sFor, ↓u_sBreak, ↓u_sCont, ↓u_dC, ↓u_d2, ↓u_d1, ↓u_dTup, ↓u_dNew, ↓u_aNil, ↓u_aCons, ↓u_nLst, ↓u_tAnd', ↓u_tOr', ↓u_tNot', ↓u_dIf, ↓u_gName', ↓u_dCall, ↓u_dB, ↓u_dLenN, ↓u_dTupN, ↓u_dM, ↓u_iNew, ↓u_nLc, ↓u_dN1, ↓u_dCut, ↓u_nCutN, ↓u_nCatNN, ↓u_d2N, ↓u_dNN, ↓u_tYes', ↓u_dS, List.set_cons_zero, List.set_cons_succ, dwipe, ite_true, ite_false, Bool.false_eq_true, Bool.true_eq_false, Bool.not_true, Bool.not_false, beq_self_eq_true, decide_eq_true_eq, Bool.not_eq_true', decide_eq_false_iff_not, mput_same, mput_put, dends, List.length_cons, List.length_nil, true_and, and_true, Nat.reduceAdd, Nat.reduceEqDiff, Int.reduceToNat, ↓x_tabLen, ↓x_fr0, ↓x_fr1, ↓x_kn0, ↓x_kn1, ↓x_map, ↓x_at0, ↓x_at1, ↓x_len, ↓x_row, ↓x_cut, ↓x_tup2, ↓x_tupfr, ↓x_isiT, ↓x_isiK, ↓x_isiF, ↓x_notN, ↓x_getT, ↓x_putT, ↓x_notNM]
  refine ⟨by decide, ?_⟩
  have hB2 : mput M e2 (O.lst (List.map D.int (List.take 63 ns))) b = some (.lst (cs.map D.int)) := by rw [mput_ne (ne_of hB he2)]; exact hB
  generalize mput M e2 (O.lst (List.map D.int (List.take 63 ns))) = M2 at hB2 ⊢
  split
  · simp only [hB2, ↓bK_bl, ↓lstK_lst, ↓intK_int, ↓optK_some, ↓tBool_, ↓dAndV_, ↓dOrV_, ↓dNotV_, ↓gI_, ↓gI0_, ↓gAdd_int, ↓gAdd_str, ↓gAdd_tup, ↓gAdd_ref, ↓gNeg_, ↓gIx_tup, ↓gIx_rl, ↓gIx_ref, ↓gIx_str, ↓atK_0, ↓atK_1, ↓atK_2, ↓atK_3, ↓atK_4, ↓atK_5, ↓atK_6, ↓atK_7, ↓atK_last, ↓setK_0, ↓setK_1, ↓setK_2, ↓setK_3, ↓gLen_str, ↓gLen_tup, ↓gLen_rl, ↓gLen_ref, ↓gTupleOf_tup, ↓gTupleOf_rl, ↓gTupleOf_ref, ↓seqK_tup, ↓seqK_rl, ↓seqK_ref, ↓nListOf_, ↓isLst_ref, ↓gAppend_, ↓gInsert_, ↓isStr_str, ↓strK_str, ↓gStrCount_, ↓dJoinN_, ↓gPopAt_, ↓nRange1_, ↓gPop_, ↓refK_ref, ↓dExtN_, ↓gExt_, ↓gSetIx_, ↓itK_some, ↓iRow_, ↓rowIt_tup, ↓rowIt_rl, ↓rowIt_str, ↓iRng1_, ↓iRng2_, ↓iZip_, ↓iEnum_, ↓gNil_, ↓gCons_, ↓gTup_, ↓gTup_ref, ↓gAbs_, ↓gMax2_, ↓gMin2_, ↓gInt_int, ↓gInt_bl, ↓gLe_int, ↓gIsN_non, ↓gIsN_tup, ↓gIsN_int, ↓gIsN_str, ↓gIsN_ref, ↓gIsN_bl, ↓isi_bool_bool, ↓isi_bool_int, ↓isi_int_int, ↓isi_int_bool, ↓isi_tuple_tup, ↓isi_int_tup, ↓isi_bool_tup, ↓isi_str_str, ↓isi_tuple_int, ↓isi_tuple_non, ↓gEq_int, ↓gNe_int, ↓gEq_bl, ↓gNe_bl, ↓gEq_str, ↓gNe_str, ↓gEq_int_non, ↓oNone_, ↓oSome_, ↓gCut_str, ↓gCut_tup, ↓gCut_ref, ↓gCut_rl, ↓rowK_rl, ↓rowK_ref, ↓nCut_, ↓nSorted_, ↓gSorted1_, ↓nRev_, ↓nCatEN_, ↓nRep_, ↓tupK_tup, ↓keysD_two, ↓dtK_dT, ↓gGetT_, ↓gPutT_, ↓nKeysT_, ↓gIsB_, ↓nRepE_, ↓dIxN_, ↓gSumN_, ↓gAllN_, ↓gAnyN_, ↓gAnyI_, ↓gMaxN_, ↓gMax1_rl, ↓gMax1_ref, ↓gMinN_, ↓gMin1_rl, ↓gMin1_ref, ↓gSum_rl, ↓gSum_ref, ↓dChain_, ↓sAug_, ↓gIndex_, ↓dVar_0, ↓dVar_1, ↓dVar_2, ↓dVar_3, ↓dVar_4, ↓dVar_5, ↓dVar_6, ↓dVar_7, ↓dVar_8, ↓dVar_9, ↓dVar_10, ↓dVar_11, ↓dVar_12, ↓dVar_13, ↓dVar_14, ↓dVar_15, ↓dVar_16, ↓dVar_17, ↓dVar_18, ↓dVar_19, ↓dVar_20, ↓dVar_21, ↓dVar_22, ↓dVar_23, ↓dVar_24, ↓dVar_25, ↓sz_0, ↓sz_1, ↓sz_2, ↓sz_3, ↓sz_4, ↓sz_5, ↓sz_6, ↓sz_7, ↓sz_8, ↓sz_9, ↓sz_10, ↓sz_11, ↓sz_12, ↓sz_13, ↓u_dNewT, ↓u_sPutT, ↓u_sSeq, ↓u_sNext, ↓u_sSet, ↓u_sSetN, ↓u_sAsg, ↓u_sIf, ↓u_sRet, ↓u_sRetN, ↓u_sDrop, ↓u_sPar, ↓u_sFor, ↓u_sBreak, ↓u_sCont, ↓u_dC, ↓u_d2, ↓u_d1, ↓u_dTup, ↓u_dNew, ↓u_aNil, ↓u_aCons, ↓u_nLst, ↓u_tAnd', ↓u_tOr', ↓u_tNot', ↓u_dIf, ↓u_gName', ↓u_dCall, ↓u_dB, ↓u_dLenN, ↓u_dTupN, ↓u_dM, ↓u_iNew, ↓u_nLc, ↓u_dN1, ↓u_dCut, ↓u_nCutN, ↓u_nCatNN, ↓u_d2N, ↓u_dNN, ↓u_tYes', ↓u_dS, List.set_cons_zero, List.set_cons_succ, dwipe, ite_true, ite_false, Bool.false_eq_true, Bool.true_eq_false, Bool.not_true, Bool.not_false, beq_self_eq_true, decide_eq_true_eq, Bool.not_eq_true', decide_eq_false_iff_not, mput_same, mput_put, dends, List.length_cons, List.length_nil, true_and, and_true, Nat.reduceAdd, Nat.reduceEqDiff, Int.reduceToNat, ↓x_tabLen, ↓x_fr0, ↓x_fr1, ↓x_kn0, ↓x_kn1, ↓x_map, ↓x_at0, ↓x_at1, ↓x_len, ↓x_row, ↓x_cut, ↓x_tup2, ↓x_tupfr, ↓x_isiT, ↓x_isiK, ↓x_isiF, ↓x_notN, ↓x_getT, ↓x_putT, ↓x_notNM]
    rw [List.length_map]
    refine ⟨by omega, ?_⟩
    rw [show ((cs.length : Nat) : Int).toNat = cs.length by omega]
    refine for_rng 0 cs.length (fun j r m' => ∃ (ds : List Int) (q3 q4 : Option D), r = [some (.rl (ns.map D.int)), some (.ref b), some (.int sd), q3, q4] ∧ m' b = some (.lst (ds.map D.int)) ∧ ds.length = cs.length) ?_ ?_ _ _ ⟨cs, _, _, rfl, hB2, rfl⟩
    · rintro r m' ⟨ds, q3, q4, rfl, hm, hdl⟩
      exact ⟨trivial, fin_ ds q3 q4 m' (by omega) (by omega) hm⟩
    · rintro j hj nx hnx r m' ⟨ds, q3, q4, rfl, hm, hdl⟩
      refine ⟨trivial, ?_⟩
      simp only [t_law_deck_b3, hm, ↓bK_bl, ↓lstK_lst, ↓intK_int, ↓optK_some, ↓tBool_, ↓dAndV_, ↓dOrV_, ↓dNotV_, ↓gI_, ↓gI0_, ↓gAdd_int, ↓gAdd_str, ↓gAdd_tup, ↓gAdd_ref, ↓gNeg_, ↓gIx_tup, ↓gIx_rl, ↓gIx_ref, ↓gIx_str, ↓atK_0, ↓atK_1, ↓atK_2, ↓atK_3, ↓atK_4, ↓atK_5, ↓atK_6, ↓atK_7, ↓atK_last, ↓setK_0, ↓setK_1, ↓setK_2, ↓setK_3, ↓gLen_str, ↓gLen_tup, ↓gLen_rl, ↓gLen_ref, ↓gTupleOf_tup, ↓gTupleOf_rl, ↓gTupleOf_ref, ↓seqK_tup, ↓seqK_rl, ↓seqK_ref, ↓nListOf_, ↓isLst_ref, ↓gAppend_, ↓gInsert_, ↓isStr_str, ↓strK_str, ↓gStrCount_, ↓dJoinN_, ↓gPopAt_, ↓nRange1_, ↓gPop_, ↓refK_ref, ↓dExtN_, ↓gExt_, ↓gSetIx_, ↓itK_some, ↓iRow_, ↓rowIt_tup, ↓rowIt_rl, ↓rowIt_str, ↓iRng1_, ↓iRng2_, ↓iZip_, ↓iEnum_, ↓gNil_, ↓gCons_, ↓gTup_, ↓gTup_ref, ↓gAbs_, ↓gMax2_, ↓gMin2_, ↓gInt_int, ↓gInt_bl, ↓gLe_int, ↓gIsN_non, ↓gIsN_tup, ↓gIsN_int, ↓gIsN_str, ↓gIsN_ref, ↓gIsN_bl, ↓isi_bool_bool, ↓isi_bool_int, ↓isi_int_int, ↓isi_int_bool, ↓isi_tuple_tup, ↓isi_int_tup, ↓isi_bool_tup, ↓isi_str_str, ↓isi_tuple_int, ↓isi_tuple_non, ↓gEq_int, ↓gNe_int, ↓gEq_bl, ↓gNe_bl, ↓gEq_str, ↓gNe_str, ↓gEq_int_non, ↓oNone_, ↓oSome_, ↓gCut_str, ↓gCut_tup, ↓gCut_ref, ↓gCut_rl, ↓rowK_rl, ↓rowK_ref, ↓nCut_, ↓nSorted_, ↓gSorted1_, ↓nRev_, ↓nCatEN_, ↓nRep_, ↓tupK_tup, ↓keysD_two, ↓dtK_dT, ↓gGetT_, ↓gPutT_, ↓nKeysT_, ↓gIsB_, ↓nRepE_, ↓dIxN_, ↓gSumN_, ↓gAllN_, ↓gAnyN_, ↓gAnyI_, ↓gMaxN_, ↓gMax1_rl, ↓gMax1_ref, ↓gMinN_, ↓gMin1_rl, ↓gMin1_ref, ↓gSum_rl, ↓gSum_ref, ↓dChain_, ↓sAug_, ↓gIndex_, ↓dVar_0, ↓dVar_1, ↓dVar_2, ↓dVar_3, ↓dVar_4, ↓dVar_5, ↓dVar_6, ↓dVar_7, ↓dVar_8, ↓dVar_9, ↓dVar_10, ↓dVar_11, ↓dVar_12, ↓dVar_13, ↓dVar_14, ↓dVar_15, ↓dVar_16, ↓dVar_17, ↓dVar_18, ↓dVar_19, ↓dVar_20, ↓dVar_21, ↓dVar_22, ↓dVar_23, ↓dVar_24, ↓dVar_25, ↓sz_0, ↓sz_1, ↓sz_2, ↓sz_3, ↓sz_4, ↓sz_5, ↓sz_6, ↓sz_7, ↓sz_8, ↓sz_9, ↓sz_10, ↓sz_11, ↓sz_12, ↓sz_13, ↓u_dNewT, ↓u_sPutT, ↓u_sSeq, ↓u_sNext, ↓u_sSet, ↓u_sSetN, ↓u_sAsg, ↓u_sIf, ↓u_sRet, ↓u_sRetN, ↓u_sDrop, ↓u_sPar, ↓u_sFor, ↓u_sBreak, ↓u_sCont, ↓u_dC, ↓u_d2, ↓u_d1, ↓u_dTup, ↓u_dNew, ↓u_aNil, ↓u_aCons, ↓u_nLst, ↓u_tAnd', ↓u_tOr', ↓u_tNot', ↓u_dIf, ↓u_gName', ↓u_dCall, ↓u_dB, ↓u_dLenN, ↓u_dTupN, ↓u_dM, ↓u_iNew, ↓u_nLc, ↓u_dN1, ↓u_dCut, ↓u_nCutN, ↓u_nCatNN, ↓u_d2N, ↓u_dNN, ↓u_tYes', ↓u_dS, List.set_cons_zero, List.set_cons_succ, dwipe, ite_true, ite_false, Bool.false_eq_true, Bool.true_eq_false, Bool.not_true, Bool.not_false, beq_self_eq_true, decide_eq_true_eq, Bool.not_eq_true', decide_eq_false_iff_not, mput_same, mput_put, dends, List.length_cons, List.length_nil, true_and, and_true, Nat.reduceAdd, Nat.reduceEqDiff, Int.reduceToNat, ↓x_tabLen, ↓x_fr0, ↓x_fr1, ↓x_kn0, ↓x_kn1, ↓x_map, ↓x_at0, ↓x_at1, ↓x_len, ↓x_row, ↓x_cut, ↓x_tup2, ↓x_tupfr, ↓x_isiT, ↓x_isiK, ↓x_isiF, ↓x_notN, ↓x_getT, ↓x_putT, ↓x_notNM]
      refine at_ints (by omega) (by omega) fun z _ => ?_
      refine ⟨show (0 : Int) < 2147483587 by decide, mul_l (by decide) (by decide), mul_r (by decide) (by decide), show (0 : Int) < 2147483629 by decide, ?_⟩
      show t_law_deck_s4 _ [_, _, _, _, some (.int ((z % 2147483587 + 853 * (0 + (j : Int)) + 11) * 69621 % 2147483629))] _
      have z0 := Int.emod_nonneg ((z % 2147483587 + 853 * (0 + (j : Int)) + 11) * 69621) (show (2147483629 : Int) ≠ 0 by decide)
      have z1 := Int.emod_lt_of_pos ((z % 2147483587 + 853 * (0 + (j : Int)) + 11) * 69621) (show (0 : Int) < 2147483629 by decide)
      generalize (z % 2147483587 + 853 * (0 + (j : Int)) + 11) * 69621 % 2147483629 = y at z0 z1 ⊢
      simp only [t_law_deck_s4, ↓bK_bl, ↓lstK_lst, ↓intK_int, ↓optK_some, ↓tBool_, ↓dAndV_, ↓dOrV_, ↓dNotV_, ↓gI_, ↓gI0_, ↓gAdd_int, ↓gAdd_str, ↓gAdd_tup, ↓gAdd_ref, ↓gNeg_, ↓gIx_tup, ↓gIx_rl, ↓gIx_ref, ↓gIx_str, ↓atK_0, ↓atK_1, ↓atK_2, ↓atK_3, ↓atK_4, ↓atK_5, ↓atK_6, ↓atK_7, ↓atK_last, ↓setK_0, ↓setK_1, ↓setK_2, ↓setK_3, ↓gLen_str, ↓gLen_tup, ↓gLen_rl, ↓gLen_ref, ↓gTupleOf_tup, ↓gTupleOf_rl, ↓gTupleOf_ref, ↓seqK_tup, ↓seqK_rl, ↓seqK_ref, ↓nListOf_, ↓isLst_ref, ↓gAppend_, ↓gInsert_, ↓isStr_str, ↓strK_str, ↓gStrCount_, ↓dJoinN_, ↓gPopAt_, ↓nRange1_, ↓gPop_, ↓refK_ref, ↓dExtN_, ↓gExt_, ↓gSetIx_, ↓itK_some, ↓iRow_, ↓rowIt_tup, ↓rowIt_rl, ↓rowIt_str, ↓iRng1_, ↓iRng2_, ↓iZip_, ↓iEnum_, ↓gNil_, ↓gCons_, ↓gTup_, ↓gTup_ref, ↓gAbs_, ↓gMax2_, ↓gMin2_, ↓gInt_int, ↓gInt_bl, ↓gLe_int, ↓gIsN_non, ↓gIsN_tup, ↓gIsN_int, ↓gIsN_str, ↓gIsN_ref, ↓gIsN_bl, ↓isi_bool_bool, ↓isi_bool_int, ↓isi_int_int, ↓isi_int_bool, ↓isi_tuple_tup, ↓isi_int_tup, ↓isi_bool_tup, ↓isi_str_str, ↓isi_tuple_int, ↓isi_tuple_non, ↓gEq_int, ↓gNe_int, ↓gEq_bl, ↓gNe_bl, ↓gEq_str, ↓gNe_str, ↓gEq_int_non, ↓oNone_, ↓oSome_, ↓gCut_str, ↓gCut_tup, ↓gCut_ref, ↓gCut_rl, ↓rowK_rl, ↓rowK_ref, ↓nCut_, ↓nSorted_, ↓gSorted1_, ↓nRev_, ↓nCatEN_, ↓nRep_, ↓tupK_tup, ↓keysD_two, ↓dtK_dT, ↓gGetT_, ↓gPutT_, ↓nKeysT_, ↓gIsB_, ↓nRepE_, ↓dIxN_, ↓gSumN_, ↓gAllN_, ↓gAnyN_, ↓gAnyI_, ↓gMaxN_, ↓gMax1_rl, ↓gMax1_ref, ↓gMinN_, ↓gMin1_rl, ↓gMin1_ref, ↓gSum_rl, ↓gSum_ref, ↓dChain_, ↓sAug_, ↓gIndex_, ↓dVar_0, ↓dVar_1, ↓dVar_2, ↓dVar_3, ↓dVar_4, ↓dVar_5, ↓dVar_6, ↓dVar_7, ↓dVar_8, ↓dVar_9, ↓dVar_10, ↓dVar_11, ↓dVar_12, ↓dVar_13, ↓dVar_14, ↓dVar_15, ↓dVar_16, ↓dVar_17, ↓dVar_18, ↓dVar_19, ↓dVar_20, ↓dVar_21, ↓dVar_22, ↓dVar_23, ↓dVar_24, ↓dVar_25, ↓sz_0, ↓sz_1, ↓sz_2, ↓sz_3, ↓sz_4, ↓sz_5, ↓sz_6, ↓sz_7, ↓sz_8, ↓sz_9, ↓sz_10, ↓sz_11, ↓sz_12, ↓sz_13, ↓u_dNewT, ↓u_sPutT, ↓u_sSeq, ↓u_sNext, ↓u_sSet, ↓u_sSetN, ↓u_sAsg, ↓u_sIf, ↓u_sRet, ↓u_sRetN, ↓u_sDrop, ↓u_sPar, ↓u_sFor, ↓u_sBreak, ↓u_sCont, ↓u_dC, ↓u_d2, ↓u_d1, ↓u_dTup, ↓u_dNew, ↓u_aNil, ↓u_aCons, ↓u_nLst, ↓u_tAnd', ↓u_tOr', ↓u_tNot', ↓u_dIf, ↓u_gName', ↓u_dCall, ↓u_dB, ↓u_dLenN, ↓u_dTupN, ↓u_dM, ↓u_iNew, ↓u_nLc, ↓u_dN1, ↓u_dCut, ↓u_nCutN, ↓u_nCatNN, ↓u_d2N, ↓u_dNN, ↓u_tYes', ↓u_dS, List.set_cons_zero, List.set_cons_succ, dwipe, ite_true, ite_false, Bool.false_eq_true, Bool.true_eq_false, Bool.not_true, Bool.not_false, beq_self_eq_true, decide_eq_true_eq, Bool.not_eq_true', decide_eq_false_iff_not, mput_same, mput_put, dends, List.length_cons, List.length_nil, true_and, and_true, Nat.reduceAdd, Nat.reduceEqDiff, Int.reduceToNat, ↓x_tabLen, ↓x_fr0, ↓x_fr1, ↓x_kn0, ↓x_kn1, ↓x_map, ↓x_at0, ↓x_at1, ↓x_len, ↓x_row, ↓x_cut, ↓x_tup2, ↓x_tupfr, ↓x_isiT, ↓x_isiK, ↓x_isiF, ↓x_notN, ↓x_getT, ↓x_putT, ↓x_notNM]
      refine ⟨mul_l (by omega) (by omega), mul_l (by decide) (by decide), show (0 : Int) < 2147483563 by decide, mul_r (by decide) (by decide), show (0 : Int) < 2147483549 by decide, ?_⟩
      have w0 := Int.emod_nonneg ((y * y + 31 * (0 + (j : Int))) % 2147483563 * 16807) (show (2147483549 : Int) ≠ 0 by decide)
      have w1 := Int.emod_lt_of_pos ((y * y + 31 * (0 + (j : Int))) % 2147483563 * 16807) (show (0 : Int) < 2147483549 by decide)
      generalize (y * y + 31 * (0 + (j : Int))) % 2147483563 * 16807 % 2147483549 = w at w0 w1 ⊢
      simp only [t_law_deck_s5, ↓bK_bl, ↓lstK_lst, ↓intK_int, ↓optK_some, ↓tBool_, ↓dAndV_, ↓dOrV_, ↓dNotV_, ↓gI_, ↓gI0_, ↓gAdd_int, ↓gAdd_str, ↓gAdd_tup, ↓gAdd_ref, ↓gNeg_, ↓gIx_tup, ↓gIx_rl, ↓gIx_ref, ↓gIx_str, ↓atK_0, ↓atK_1, ↓atK_2, ↓atK_3, ↓atK_4, ↓atK_5, ↓atK_6, ↓atK_7, ↓atK_last, ↓setK_0, ↓setK_1, ↓setK_2, ↓setK_3, ↓gLen_str, ↓gLen_tup, ↓gLen_rl, ↓gLen_ref, ↓gTupleOf_tup, ↓gTupleOf_rl, ↓gTupleOf_ref, ↓seqK_tup, ↓seqK_rl, ↓seqK_ref, ↓nListOf_, ↓isLst_ref, ↓gAppend_, ↓gInsert_, ↓isStr_str, ↓strK_str, ↓gStrCount_, ↓dJoinN_, ↓gPopAt_, ↓nRange1_, ↓gPop_, ↓refK_ref, ↓dExtN_, ↓gExt_, ↓gSetIx_, ↓itK_some, ↓iRow_, ↓rowIt_tup, ↓rowIt_rl, ↓rowIt_str, ↓iRng1_, ↓iRng2_, ↓iZip_, ↓iEnum_, ↓gNil_, ↓gCons_, ↓gTup_, ↓gTup_ref, ↓gAbs_, ↓gMax2_, ↓gMin2_, ↓gInt_int, ↓gInt_bl, ↓gLe_int, ↓gIsN_non, ↓gIsN_tup, ↓gIsN_int, ↓gIsN_str, ↓gIsN_ref, ↓gIsN_bl, ↓isi_bool_bool, ↓isi_bool_int, ↓isi_int_int, ↓isi_int_bool, ↓isi_tuple_tup, ↓isi_int_tup, ↓isi_bool_tup, ↓isi_str_str, ↓isi_tuple_int, ↓isi_tuple_non, ↓gEq_int, ↓gNe_int, ↓gEq_bl, ↓gNe_bl, ↓gEq_str, ↓gNe_str, ↓gEq_int_non, ↓oNone_, ↓oSome_, ↓gCut_str, ↓gCut_tup, ↓gCut_ref, ↓gCut_rl, ↓rowK_rl, ↓rowK_ref, ↓nCut_, ↓nSorted_, ↓gSorted1_, ↓nRev_, ↓nCatEN_, ↓nRep_, ↓tupK_tup, ↓keysD_two, ↓dtK_dT, ↓gGetT_, ↓gPutT_, ↓nKeysT_, ↓gIsB_, ↓nRepE_, ↓dIxN_, ↓gSumN_, ↓gAllN_, ↓gAnyN_, ↓gAnyI_, ↓gMaxN_, ↓gMax1_rl, ↓gMax1_ref, ↓gMinN_, ↓gMin1_rl, ↓gMin1_ref, ↓gSum_rl, ↓gSum_ref, ↓dChain_, ↓sAug_, ↓gIndex_, ↓dVar_0, ↓dVar_1, ↓dVar_2, ↓dVar_3, ↓dVar_4, ↓dVar_5, ↓dVar_6, ↓dVar_7, ↓dVar_8, ↓dVar_9, ↓dVar_10, ↓dVar_11, ↓dVar_12, ↓dVar_13, ↓dVar_14, ↓dVar_15, ↓dVar_16, ↓dVar_17, ↓dVar_18, ↓dVar_19, ↓dVar_20, ↓dVar_21, ↓dVar_22, ↓dVar_23, ↓dVar_24, ↓dVar_25, ↓sz_0, ↓sz_1, ↓sz_2, ↓sz_3, ↓sz_4, ↓sz_5, ↓sz_6, ↓sz_7, ↓sz_8, ↓sz_9, ↓sz_10, ↓sz_11, ↓sz_12, ↓sz_13, ↓u_dNewT, ↓u_sPutT, ↓u_sSeq, ↓u_sNext, ↓u_sSet, ↓u_sSetN, ↓u_sAsg, ↓u_sIf, ↓u_sRet, ↓u_sRetN, ↓u_sDrop, ↓u_sPar, ↓u_sFor, ↓u_sBreak, ↓u_sCont, ↓u_dC, ↓u_d2, ↓u_d1, ↓u_dTup, ↓u_dNew, ↓u_aNil, ↓u_aCons, ↓u_nLst, ↓u_tAnd', ↓u_tOr', ↓u_tNot', ↓u_dIf, ↓u_gName', ↓u_dCall, ↓u_dB, ↓u_dLenN, ↓u_dTupN, ↓u_dM, ↓u_iNew, ↓u_nLc, ↓u_dN1, ↓u_dCut, ↓u_nCutN, ↓u_nCatNN, ↓u_d2N, ↓u_dNN, ↓u_tYes', ↓u_dS, List.set_cons_zero, List.set_cons_succ, dwipe, ite_true, ite_false, Bool.false_eq_true, Bool.true_eq_false, Bool.not_true, Bool.not_false, beq_self_eq_true, decide_eq_true_eq, Bool.not_eq_true', decide_eq_false_iff_not, mput_same, mput_put, dends, List.length_cons, List.length_nil, true_and, and_true, Nat.reduceAdd, Nat.reduceEqDiff, Int.reduceToNat, ↓x_tabLen, ↓x_fr0, ↓x_fr1, ↓x_kn0, ↓x_kn1, ↓x_map, ↓x_at0, ↓x_at1, ↓x_len, ↓x_row, ↓x_cut, ↓x_tup2, ↓x_tupfr, ↓x_isiT, ↓x_isiK, ↓x_isiF, ↓x_notN, ↓x_getT, ↓x_putT, ↓x_notNM]
      refine ⟨mul_l (by omega) (by omega), mul_r (by decide) (by decide), mul_l (by omega) (by omega), show (0 : Int) < 2147483579 by decide, ?_⟩
      rw [hm, lstK_lst]
      refine setK_of (n := j) (by omega) (by rw [List.length_map]; omega) ?_
      refine hnx _ _ ⟨ds.set j (w * w * 2147483543 + w * 48271 % 2147483579), _, _, rfl, ?_, by rw [List.length_set]; exact hdl⟩
      rw [mput_same, List.map_set]
  · exact fin_ cs _ _ M2 hcl hcl1 hB2

/-! ### law_take -/
def t_law_take_s5 : DTS :=
  (sRet (dMod (dDiv (dVar 4) (dC (.int 8))) (dVar 1)))
def t_law_take_s4 : DTS :=
  (sSeq (sSet 4 (dMod (dMul (dMod (dPlus (dMul (dVar 4) (dVar 4)) (dMul (dC (.int 31)) (dIx (dVar 0) (dC (.int 1))))) (dC (.int 2147483563))) (dC (.int 16807))) (dC (.int 2147483549)))) t_law_take_s5)
def t_law_take_s7 : DTS :=
  (sRet (dMod (dVar 3) (dVar 1)))
def t_law_take_s6 : DTS :=
  (sSeq (sAsg (dDiv (dVar 3) (dVar 1)) (gSetIx (dIx (dVar 0) (dC (.int 0))) (dVar 2))) t_law_take_s7)
def t_law_take_s3 : DTS :=
  (sSeq (sIf (tOr' (tBool (dEq (dVar 3) (dC (.int 0)))) (tBool (dEq (dVar 3) (dNeg (dC (.int 1)))))) (sSeq (sSet 4 (dMod (dMul (dMod (dPlus (dIx (dVar 0) (dC (.int 2))) (dMul (dC (.int 7919)) (dIx (dVar 0) (dC (.int 1))))) (dC (.int 2147483587))) (dC (.int 69621))) (dC (.int 2147483629)))) t_law_take_s4) sNext) t_law_take_s6)
def t_law_take_s2 : DTS :=
  (sSeq (sSet 3 (dIx (dIx (dVar 0) (dC (.int 0))) (dVar 2))) t_law_take_s3)
def t_law_take_s1 : DTS :=
  (sSeq (sAsg (dPlus (dIx (dVar 0) (dC (.int 1))) (dC (.int 1))) (gSetIx (dVar 0) (dC (.int 1)))) t_law_take_s2)
def t_law_take : DTS :=
  (sSeq (sSet 2 (dMod (dIx (dVar 0) (dC (.int 1))) (dB gLen (aCons (dIx (dVar 0) (dC (.int 0))) aNil)))) t_law_take_s1)
abbrev sp_law_take : DSp := spTake
theorem len_law_take : ∀ ds m R E, sp_law_take ds m R E → ds.length = (["deck", "many"] : List Str).length := by
  rintro ds m R E ⟨a, b, c, d, rfl, _⟩; rfl
theorem rd_law_take : ∀ ds m R E, sp_law_take ds m R E → t_law_take (dends R) (dstart 5 ds) m := by
  rintro ds m R E ⟨a, b, many, N, rfl, ⟨cs, k, s, hA, hB, c1, c2, k0, k1, s0, s1⟩, hN, m0, m1, hR⟩
  show t_law_take (dends R) [some (.ref a), some (.int many), none, none, none] m
  have hab : b ≠ a := by
    intro e
    rw [e, hA] at hB
    cases cs with
    | nil => simp at c1
    | cons x xs => simp at hB
  simp only [t_law_take, hA, hB, ↓bK_bl, ↓lstK_lst, ↓intK_int, ↓optK_some, ↓tBool_, ↓dAndV_, ↓dOrV_, ↓dNotV_, ↓gI_, ↓gI0_, ↓gAdd_int, ↓gAdd_str, ↓gAdd_tup, ↓gAdd_ref, ↓gNeg_, ↓gIx_tup, ↓gIx_rl, ↓gIx_ref, ↓gIx_str, ↓atK_0, ↓atK_1, ↓atK_2, ↓atK_3, ↓atK_4, ↓atK_5, ↓atK_6, ↓atK_7, ↓atK_last, ↓setK_0, ↓setK_1, ↓setK_2, ↓setK_3, ↓gLen_str, ↓gLen_tup, ↓gLen_rl, ↓gLen_ref, ↓gTupleOf_tup, ↓gTupleOf_rl, ↓gTupleOf_ref, ↓seqK_tup, ↓seqK_rl, ↓seqK_ref, ↓nListOf_, ↓isLst_ref, ↓gAppend_, ↓gInsert_, ↓isStr_str, ↓strK_str, ↓gStrCount_, ↓dJoinN_, ↓gPopAt_, ↓nRange1_, ↓gPop_, ↓refK_ref, ↓dExtN_, ↓gExt_, ↓gSetIx_, ↓itK_some, ↓iRow_, ↓rowIt_tup, ↓rowIt_rl, ↓rowIt_str, ↓iRng1_, ↓iRng2_, ↓iZip_, ↓iEnum_, ↓gNil_, ↓gCons_, ↓gTup_, ↓gTup_ref, ↓gAbs_, ↓gMax2_, ↓gMin2_, ↓gInt_int, ↓gInt_bl, ↓gLe_int, ↓gIsN_non, ↓gIsN_tup, ↓gIsN_int, ↓gIsN_str, ↓gIsN_ref, ↓gIsN_bl, ↓isi_bool_bool, ↓isi_bool_int, ↓isi_int_int, ↓isi_int_bool, ↓isi_tuple_tup, ↓isi_int_tup, ↓isi_bool_tup, ↓isi_str_str, ↓isi_tuple_int, ↓isi_tuple_non, ↓gEq_int, ↓gNe_int, ↓gEq_bl, ↓gNe_bl, ↓gEq_str, ↓gNe_str, ↓gEq_int_non, ↓oNone_, ↓oSome_, ↓gCut_str, ↓gCut_tup, ↓gCut_ref, ↓gCut_rl, ↓rowK_rl, ↓rowK_ref, ↓nCut_, ↓nSorted_, ↓gSorted1_, ↓nRev_, ↓nCatEN_, ↓nRep_, ↓tupK_tup, ↓keysD_two, ↓dtK_dT, ↓gGetT_, ↓gPutT_, ↓nKeysT_, ↓gIsB_, ↓nRepE_, ↓dIxN_, ↓gSumN_, ↓gAllN_, ↓gAnyN_, ↓gAnyI_, ↓gMaxN_, ↓gMax1_rl, ↓gMax1_ref, ↓gMinN_, ↓gMin1_rl, ↓gMin1_ref, ↓gSum_rl, ↓gSum_ref, ↓dChain_, ↓sAug_, ↓gIndex_, ↓dVar_0, ↓dVar_1, ↓dVar_2, ↓dVar_3, ↓dVar_4, ↓dVar_5, ↓dVar_6, ↓dVar_7, ↓dVar_8, ↓dVar_9, ↓dVar_10, ↓dVar_11, ↓dVar_12, ↓dVar_13, ↓dVar_14, ↓dVar_15, ↓dVar_16, ↓dVar_17, ↓dVar_18, ↓dVar_19, ↓dVar_20, ↓dVar_21, ↓dVar_22, ↓dVar_23, ↓dVar_24, ↓dVar_25, ↓sz_0, ↓sz_1, ↓sz_2, ↓sz_3, ↓sz_4, ↓sz_5, ↓sz_6, ↓sz_7, ↓sz_8, ↓sz_9, ↓sz_10, ↓sz_11, ↓sz_12, ↓sz_13, ↓u_dNewT, ↓u_sPutT, ↓u_sSeq, ↓u_sNext, ↓u_sSet, ↓u_sSetN, ↓u_sAsg, ↓u_sIf, ↓u_sRet, ↓u_sRetN, ↓u_sDrop, ↓u_sPar, ↓u_sFor, ↓u_sBreak, ↓u_sCont, ↓u_dC, ↓u_d2, ↓u_d1, ↓u_dTup, ↓u_dNew, ↓u_aNil, ↓u_aCons, ↓u_nLst, ↓u_tAnd', ↓u_tOr', ↓u_tNot', ↓u_dIf, ↓u_gName', ↓u_dCall, ↓u_dB, ↓u_dLenN, ↓u_dTupN, ↓u_dM, ↓u_iNew, ↓u_nLc, ↓u_dN1, ↓u_dCut, ↓u_nCutN, ↓u_nCatNN, ↓u_d2N, ↓u_dNN, ↓u_tYes', ↓u_dS, List.set_cons_zero, List.set_cons_succ, dwipe, ite_true, ite_false, Bool.false_eq_true, Bool.true_eq_false, Bool.not_true, Bool.not_false, beq_self_eq_true, decide_eq_true_eq, Bool.not_eq_true', decide_eq_false_iff_not, mput_same, mput_put, dends, List.length_cons, List.length_nil, true_and, and_true, Nat.reduceAdd, Nat.reduceEqDiff, Int.reduceToNat, ↓x_tabLen, ↓x_fr0, ↓x_fr1, ↓x_kn0, ↓x_kn1, ↓x_map, ↓x_at0, ↓x_at1, ↓x_len, ↓x_row, ↓x_cut, ↓x_tup2, ↓x_tupfr, ↓x_isiT, ↓x_isiK, ↓x_isiF, ↓x_notN, ↓x_getT, ↓x_putT, ↓x_notNM]
  rw [List.length_map]
  have hl : (0 : Int) < (cs.length : Int) := by omega
  refine ⟨hl, ?_⟩
  have i0 := Int.emod_nonneg k (show (cs.length : Int) ≠ 0 by omega)
  have i1 := Int.emod_lt_of_pos k hl
  obtain ⟨i, ei⟩ : ∃ i : Nat, k % (cs.length : Int) = i := ⟨(k % (cs.length : Int)).toNat, by omega⟩
  rw [ei] at i0 i1 ⊢
  have hi : i < cs.length := by omega
  simp only [t_law_take_s1, hA, ↓bK_bl, ↓lstK_lst, ↓intK_int, ↓optK_some, ↓tBool_, ↓dAndV_, ↓dOrV_, ↓dNotV_, ↓gI_, ↓gI0_, ↓gAdd_int, ↓gAdd_str, ↓gAdd_tup, ↓gAdd_ref, ↓gNeg_, ↓gIx_tup, ↓gIx_rl, ↓gIx_ref, ↓gIx_str, ↓atK_0, ↓atK_1, ↓atK_2, ↓atK_3, ↓atK_4, ↓atK_5, ↓atK_6, ↓atK_7, ↓atK_last, ↓setK_0, ↓setK_1, ↓setK_2, ↓setK_3, ↓gLen_str, ↓gLen_tup, ↓gLen_rl, ↓gLen_ref, ↓gTupleOf_tup, ↓gTupleOf_rl, ↓gTupleOf_ref, ↓seqK_tup, ↓seqK_rl, ↓seqK_ref, ↓nListOf_, ↓isLst_ref, ↓gAppend_, ↓gInsert_, ↓isStr_str, ↓strK_str, ↓gStrCount_, ↓dJoinN_, ↓gPopAt_, ↓nRange1_, ↓gPop_, ↓refK_ref, ↓dExtN_, ↓gExt_, ↓gSetIx_, ↓itK_some, ↓iRow_, ↓rowIt_tup, ↓rowIt_rl, ↓rowIt_str, ↓iRng1_, ↓iRng2_, ↓iZip_, ↓iEnum_, ↓gNil_, ↓gCons_, ↓gTup_, ↓gTup_ref, ↓gAbs_, ↓gMax2_, ↓gMin2_, ↓gInt_int, ↓gInt_bl, ↓gLe_int, ↓gIsN_non, ↓gIsN_tup, ↓gIsN_int, ↓gIsN_str, ↓gIsN_ref, ↓gIsN_bl, ↓isi_bool_bool, ↓isi_bool_int, ↓isi_int_int, ↓isi_int_bool, ↓isi_tuple_tup, ↓isi_int_tup, ↓isi_bool_tup, ↓isi_str_str, ↓isi_tuple_int, ↓isi_tuple_non, ↓gEq_int, ↓gNe_int, ↓gEq_bl, ↓gNe_bl, ↓gEq_str, ↓gNe_str, ↓gEq_int_non, ↓oNone_, ↓oSome_, ↓gCut_str, ↓gCut_tup, ↓gCut_ref, ↓gCut_rl, ↓rowK_rl, ↓rowK_ref, ↓nCut_, ↓nSorted_, ↓gSorted1_, ↓nRev_, ↓nCatEN_, ↓nRep_, ↓tupK_tup, ↓keysD_two, ↓dtK_dT, ↓gGetT_, ↓gPutT_, ↓nKeysT_, ↓gIsB_, ↓nRepE_, ↓dIxN_, ↓gSumN_, ↓gAllN_, ↓gAnyN_, ↓gAnyI_, ↓gMaxN_, ↓gMax1_rl, ↓gMax1_ref, ↓gMinN_, ↓gMin1_rl, ↓gMin1_ref, ↓gSum_rl, ↓gSum_ref, ↓dChain_, ↓sAug_, ↓gIndex_, ↓dVar_0, ↓dVar_1, ↓dVar_2, ↓dVar_3, ↓dVar_4, ↓dVar_5, ↓dVar_6, ↓dVar_7, ↓dVar_8, ↓dVar_9, ↓dVar_10, ↓dVar_11, ↓dVar_12, ↓dVar_13, ↓dVar_14, ↓dVar_15, ↓dVar_16, ↓dVar_17, ↓dVar_18, ↓dVar_19, ↓dVar_20, ↓dVar_21, ↓dVar_22, ↓dVar_23, ↓dVar_24, ↓dVar_25, ↓sz_0, ↓sz_1, ↓sz_2, ↓sz_3, ↓sz_4, ↓sz_5, ↓sz_6, ↓sz_7, ↓sz_8, ↓sz_9, ↓sz_10, ↓sz_11, ↓sz_12, ↓sz_13, ↓u_dNewT, ↓u_sPutT, ↓u_sSeq, ↓u_sNext, ↓u_sSet, ↓u_sSetN, ↓u_sAsg, ↓u_sIf, ↓u_sRet, ↓u_sRetN, ↓u_sDrop, ↓u_sPar, ↓u_sFor, ↓u_sBreak, ↓u_sCont, ↓u_dC, ↓u_d2, ↓u_d1, ↓u_dTup, ↓u_dNew, ↓u_aNil, ↓u_aCons, ↓u_nLst, ↓u_tAnd', ↓u_tOr', ↓u_tNot', ↓u_dIf, ↓u_gName', ↓u_dCall, ↓u_dB, ↓u_dLenN, ↓u_dTupN, ↓u_dM, ↓u_iNew, ↓u_nLc, ↓u_dN1, ↓u_dCut, ↓u_nCutN, ↓u_nCatNN, ↓u_d2N, ↓u_dNN, ↓u_tYes', ↓u_dS, List.set_cons_zero, List.set_cons_succ, dwipe, ite_true, ite_false, Bool.false_eq_true, Bool.true_eq_false, Bool.not_true, Bool.not_false, beq_self_eq_true, decide_eq_true_eq, Bool.not_eq_true', decide_eq_false_iff_not, mput_same, mput_put, dends, List.length_cons, List.length_nil, true_and, and_true, Nat.reduceAdd, Nat.reduceEqDiff, Int.reduceToNat, ↓x_tabLen, ↓x_fr0, ↓x_fr1, ↓x_kn0, ↓x_kn1, ↓x_map, ↓x_at0, ↓x_at1, ↓x_len, ↓x_row, ↓x_cut, ↓x_tup2, ↓x_tupfr, ↓x_isiT, ↓x_isiK, ↓x_isiF, ↓x_notN, ↓x_getT, ↓x_putT, ↓x_notNM]
  have hB2 : ∀ o, mput m a o b = some (.lst (cs.map D.int)) := fun o => by rw [mput_ne hab]; exact hB
  simp only [t_law_take_s2, mput_same, hB2, ↓bK_bl, ↓lstK_lst, ↓intK_int, ↓optK_some, ↓tBool_, ↓dAndV_, ↓dOrV_, ↓dNotV_, ↓gI_, ↓gI0_, ↓gAdd_int, ↓gAdd_str, ↓gAdd_tup, ↓gAdd_ref, ↓gNeg_, ↓gIx_tup, ↓gIx_rl, ↓gIx_ref, ↓gIx_str, ↓atK_0, ↓atK_1, ↓atK_2, ↓atK_3, ↓atK_4, ↓atK_5, ↓atK_6, ↓atK_7, ↓atK_last, ↓setK_0, ↓setK_1, ↓setK_2, ↓setK_3, ↓gLen_str, ↓gLen_tup, ↓gLen_rl, ↓gLen_ref, ↓gTupleOf_tup, ↓gTupleOf_rl, ↓gTupleOf_ref, ↓seqK_tup, ↓seqK_rl, ↓seqK_ref, ↓nListOf_, ↓isLst_ref, ↓gAppend_, ↓gInsert_, ↓isStr_str, ↓strK_str, ↓gStrCount_, ↓dJoinN_, ↓gPopAt_, ↓nRange1_, ↓gPop_, ↓refK_ref, ↓dExtN_, ↓gExt_, ↓gSetIx_, ↓itK_some, ↓iRow_, ↓rowIt_tup, ↓rowIt_rl, ↓rowIt_str, ↓iRng1_, ↓iRng2_, ↓iZip_, ↓iEnum_, ↓gNil_, ↓gCons_, ↓gTup_, ↓gTup_ref, ↓gAbs_, ↓gMax2_, ↓gMin2_, ↓gInt_int, ↓gInt_bl, ↓gLe_int, ↓gIsN_non, ↓gIsN_tup, ↓gIsN_int, ↓gIsN_str, ↓gIsN_ref, ↓gIsN_bl, ↓isi_bool_bool, ↓isi_bool_int, ↓isi_int_int, ↓isi_int_bool, ↓isi_tuple_tup, ↓isi_int_tup, ↓isi_bool_tup, ↓isi_str_str, ↓isi_tuple_int, ↓isi_tuple_non, ↓gEq_int, ↓gNe_int, ↓gEq_bl, ↓gNe_bl, ↓gEq_str, ↓gNe_str, ↓gEq_int_non, ↓oNone_, ↓oSome_, ↓gCut_str, ↓gCut_tup, ↓gCut_ref, ↓gCut_rl, ↓rowK_rl, ↓rowK_ref, ↓nCut_, ↓nSorted_, ↓gSorted1_, ↓nRev_, ↓nCatEN_, ↓nRep_, ↓tupK_tup, ↓keysD_two, ↓dtK_dT, ↓gGetT_, ↓gPutT_, ↓nKeysT_, ↓gIsB_, ↓nRepE_, ↓dIxN_, ↓gSumN_, ↓gAllN_, ↓gAnyN_, ↓gAnyI_, ↓gMaxN_, ↓gMax1_rl, ↓gMax1_ref, ↓gMinN_, ↓gMin1_rl, ↓gMin1_ref, ↓gSum_rl, ↓gSum_ref, ↓dChain_, ↓sAug_, ↓gIndex_, ↓dVar_0, ↓dVar_1, ↓dVar_2, ↓dVar_3, ↓dVar_4, ↓dVar_5, ↓dVar_6, ↓dVar_7, ↓dVar_8, ↓dVar_9, ↓dVar_10, ↓dVar_11, ↓dVar_12, ↓dVar_13, ↓dVar_14, ↓dVar_15, ↓dVar_16, ↓dVar_17, ↓dVar_18, ↓dVar_19, ↓dVar_20, ↓dVar_21, ↓dVar_22, ↓dVar_23, ↓dVar_24, ↓dVar_25, ↓sz_0, ↓sz_1, ↓sz_2, ↓sz_3, ↓sz_4, ↓sz_5, ↓sz_6, ↓sz_7, ↓sz_8, ↓sz_9, ↓sz_10, ↓sz_11, ↓sz_12, ↓sz_13, ↓u_dNewT, ↓u_sPutT, ↓u_sSeq, ↓u_sNext, ↓u_sSet, ↓u_sSetN, ↓u_sAsg, ↓u_sIf, ↓u_sRet, ↓u_sRetN, ↓u_sDrop, ↓u_sPar, ↓u_sFor, ↓u_sBreak, ↓u_sCont, ↓u_dC, ↓u_d2, ↓u_d1, ↓u_dTup, ↓u_dNew, ↓u_aNil, ↓u_aCons, ↓u_nLst, ↓u_tAnd', ↓u_tOr', ↓u_tNot', ↓u_dIf, ↓u_gName', ↓u_dCall, ↓u_dB, ↓u_dLenN, ↓u_dTupN, ↓u_dM, ↓u_iNew, ↓u_nLc, ↓u_dN1, ↓u_dCut, ↓u_nCutN, ↓u_nCatNN, ↓u_d2N, ↓u_dNN, ↓u_tYes', ↓u_dS, List.set_cons_zero, List.set_cons_succ, dwipe, ite_true, ite_false, Bool.false_eq_true, Bool.true_eq_false, Bool.not_true, Bool.not_false, beq_self_eq_true, decide_eq_true_eq, Bool.not_eq_true', decide_eq_false_iff_not, mput_same, mput_put, dends, List.length_cons, List.length_nil, true_and, and_true, Nat.reduceAdd, Nat.reduceEqDiff, Int.reduceToNat, ↓x_tabLen, ↓x_fr0, ↓x_fr1, ↓x_kn0, ↓x_kn1, ↓x_map, ↓x_at0, ↓x_at1, ↓x_len, ↓x_row, ↓x_cut, ↓x_tup2, ↓x_tupfr, ↓x_isiT, ↓x_isiK, ↓x_isiF, ↓x_notN, ↓x_getT, ↓x_putT, ↓x_notNM]
  refine at_ints (by omega) (by omega) fun z _ => ?_
  simp only [t_law_take_s3, mput_same, ↓bK_bl, ↓lstK_lst, ↓intK_int, ↓optK_some, ↓tBool_, ↓dAndV_, ↓dOrV_, ↓dNotV_, ↓gI_, ↓gI0_, ↓gAdd_int, ↓gAdd_str, ↓gAdd_tup, ↓gAdd_ref, ↓gNeg_, ↓gIx_tup, ↓gIx_rl, ↓gIx_ref, ↓gIx_str, ↓atK_0, ↓atK_1, ↓atK_2, ↓atK_3, ↓atK_4, ↓atK_5, ↓atK_6, ↓atK_7, ↓atK_last, ↓setK_0, ↓setK_1, ↓setK_2, ↓setK_3, ↓gLen_str, ↓gLen_tup, ↓gLen_rl, ↓gLen_ref, ↓gTupleOf_tup, ↓gTupleOf_rl, ↓gTupleOf_ref, ↓seqK_tup, ↓seqK_rl, ↓seqK_ref, ↓nListOf_, ↓isLst_ref, ↓gAppend_, ↓gInsert_, ↓isStr_str, ↓strK_str, ↓gStrCount_, ↓dJoinN_, ↓gPopAt_, ↓nRange1_, ↓gPop_, ↓refK_ref, ↓dExtN_, ↓gExt_, ↓gSetIx_, ↓itK_some, ↓iRow_, ↓rowIt_tup, ↓rowIt_rl, ↓rowIt_str, ↓iRng1_, ↓iRng2_, ↓iZip_, ↓iEnum_, ↓gNil_, ↓gCons_, ↓gTup_, ↓gTup_ref, ↓gAbs_, ↓gMax2_, ↓gMin2_, ↓gInt_int, ↓gInt_bl, ↓gLe_int, ↓gIsN_non, ↓gIsN_tup, ↓gIsN_int, ↓gIsN_str, ↓gIsN_ref, ↓gIsN_bl, ↓isi_bool_bool, ↓isi_bool_int, ↓isi_int_int, ↓isi_int_bool, ↓isi_tuple_tup, ↓isi_int_tup, ↓isi_bool_tup, ↓isi_str_str, ↓isi_tuple_int, ↓isi_tuple_non, ↓gEq_int, ↓gNe_int, ↓gEq_bl, ↓gNe_bl, ↓gEq_str, ↓gNe_str, ↓gEq_int_non, ↓oNone_, ↓oSome_, ↓gCut_str, ↓gCut_tup, ↓gCut_ref, ↓gCut_rl, ↓rowK_rl, ↓rowK_ref, ↓nCut_, ↓nSorted_, ↓gSorted1_, ↓nRev_, ↓nCatEN_, ↓nRep_, ↓tupK_tup, ↓keysD_two, ↓dtK_dT, ↓gGetT_, ↓gPutT_, ↓nKeysT_, ↓gIsB_, ↓nRepE_, ↓dIxN_, ↓gSumN_, ↓gAllN_, ↓gAnyN_, ↓gAnyI_, ↓gMaxN_, ↓gMax1_rl, ↓gMax1_ref, ↓gMinN_, ↓gMin1_rl, ↓gMin1_ref, ↓gSum_rl, ↓gSum_ref, ↓dChain_, ↓sAug_, ↓gIndex_, ↓dVar_0, ↓dVar_1, ↓dVar_2, ↓dVar_3, ↓dVar_4, ↓dVar_5, ↓dVar_6, ↓dVar_7, ↓dVar_8, ↓dVar_9, ↓dVar_10, ↓dVar_11, ↓dVar_12, ↓dVar_13, ↓dVar_14, ↓dVar_15, ↓dVar_16, ↓dVar_17, ↓dVar_18, ↓dVar_19, ↓dVar_20, ↓dVar_21, ↓dVar_22, ↓dVar_23, ↓dVar_24, ↓dVar_25, ↓sz_0, ↓sz_1, ↓sz_2, ↓sz_3, ↓sz_4, ↓sz_5, ↓sz_6, ↓sz_7, ↓sz_8, ↓sz_9, ↓sz_10, ↓sz_11, ↓sz_12, ↓sz_13, ↓u_dNewT, ↓u_sPutT, ↓u_sSeq, ↓u_sNext, ↓u_sSet, ↓u_sSetN, ↓u_sAsg, ↓u_sIf, ↓u_sRet, ↓u_sRetN, ↓u_sDrop, ↓u_sPar, ↓u_sFor, ↓u_sBreak, ↓u_sCont, ↓u_dC, ↓u_d2, ↓u_d1, ↓u_dTup, ↓u_dNew, ↓u_aNil, ↓u_aCons, ↓u_nLst, ↓u_tAnd', ↓u_tOr', ↓u_tNot', ↓u_dIf, ↓u_gName', ↓u_dCall, ↓u_dB, ↓u_dLenN, ↓u_dTupN, ↓u_dM, ↓u_iNew, ↓u_nLc, ↓u_dN1, ↓u_dCut, ↓u_nCutN, ↓u_nCatNN, ↓u_d2N, ↓u_dNN, ↓u_tYes', ↓u_dS, List.set_cons_zero, List.set_cons_succ, dwipe, ite_true, ite_false, Bool.false_eq_true, Bool.true_eq_false, Bool.not_true, Bool.not_false, beq_self_eq_true, decide_eq_true_eq, Bool.not_eq_true', decide_eq_false_iff_not, mput_same, mput_put, dends, List.length_cons, List.length_nil, true_and, and_true, Nat.reduceAdd, Nat.reduceEqDiff, Int.reduceToNat, ↓x_tabLen, ↓x_fr0, ↓x_fr1, ↓x_kn0, ↓x_kn1, ↓x_map, ↓x_at0, ↓x_at1, ↓x_len, ↓x_row, ↓x_cut, ↓x_tup2, ↓x_tupfr, ↓x_isiT, ↓x_isiK, ↓x_isiF, ↓x_notN, ↓x_getT, ↓x_putT, ↓x_notNM]
  have lose : t_law_take_s6 (dends R) [some (.ref a), some (.int many), some (.int i), some (.int z), none] (mput m a (O.lst [D.ref b, D.int (k + 1), D.int s])) := by
    simp only [t_law_take_s6, mput_same, hB2, ↓bK_bl, ↓lstK_lst, ↓intK_int, ↓optK_some, ↓tBool_, ↓dAndV_, ↓dOrV_, ↓dNotV_, ↓gI_, ↓gI0_, ↓gAdd_int, ↓gAdd_str, ↓gAdd_tup, ↓gAdd_ref, ↓gNeg_, ↓gIx_tup, ↓gIx_rl, ↓gIx_ref, ↓gIx_str, ↓atK_0, ↓atK_1, ↓atK_2, ↓atK_3, ↓atK_4, ↓atK_5, ↓atK_6, ↓atK_7, ↓atK_last, ↓setK_0, ↓setK_1, ↓setK_2, ↓setK_3, ↓gLen_str, ↓gLen_tup, ↓gLen_rl, ↓gLen_ref, ↓gTupleOf_tup, ↓gTupleOf_rl, ↓gTupleOf_ref, ↓seqK_tup, ↓seqK_rl, ↓seqK_ref, ↓nListOf_, ↓isLst_ref, ↓gAppend_, ↓gInsert_, ↓isStr_str, ↓strK_str, ↓gStrCount_, ↓dJoinN_, ↓gPopAt_, ↓nRange1_, ↓gPop_, ↓refK_ref, ↓dExtN_, ↓gExt_, ↓gSetIx_, ↓itK_some, ↓iRow_, ↓rowIt_tup, ↓rowIt_rl, ↓rowIt_str, ↓iRng1_, ↓iRng2_, ↓iZip_, ↓iEnum_, ↓gNil_, ↓gCons_, ↓gTup_, ↓gTup_ref, ↓gAbs_, ↓gMax2_, ↓gMin2_, ↓gInt_int, ↓gInt_bl, ↓gLe_int, ↓gIsN_non, ↓gIsN_tup, ↓gIsN_int, ↓gIsN_str, ↓gIsN_ref, ↓gIsN_bl, ↓isi_bool_bool, ↓isi_bool_int, ↓isi_int_int, ↓isi_int_bool, ↓isi_tuple_tup, ↓isi_int_tup, ↓isi_bool_tup, ↓isi_str_str, ↓isi_tuple_int, ↓isi_tuple_non, ↓gEq_int, ↓gNe_int, ↓gEq_bl, ↓gNe_bl, ↓gEq_str, ↓gNe_str, ↓gEq_int_non, ↓oNone_, ↓oSome_, ↓gCut_str, ↓gCut_tup, ↓gCut_ref, ↓gCut_rl, ↓rowK_rl, ↓rowK_ref, ↓nCut_, ↓nSorted_, ↓gSorted1_, ↓nRev_, ↓nCatEN_, ↓nRep_, ↓tupK_tup, ↓keysD_two, ↓dtK_dT, ↓gGetT_, ↓gPutT_, ↓nKeysT_, ↓gIsB_, ↓nRepE_, ↓dIxN_, ↓gSumN_, ↓gAllN_, ↓gAnyN_, ↓gAnyI_, ↓gMaxN_, ↓gMax1_rl, ↓gMax1_ref, ↓gMinN_, ↓gMin1_rl, ↓gMin1_ref, ↓gSum_rl, ↓gSum_ref, ↓dChain_, ↓sAug_, ↓gIndex_, ↓dVar_0, ↓dVar_1, ↓dVar_2, ↓dVar_3, ↓dVar_4, ↓dVar_5, ↓dVar_6, ↓dVar_7, ↓dVar_8, ↓dVar_9, ↓dVar_10, ↓dVar_11, ↓dVar_12, ↓dVar_13, ↓dVar_14, ↓dVar_15, ↓dVar_16, ↓dVar_17, ↓dVar_18, ↓dVar_19, ↓dVar_20, ↓dVar_21, ↓dVar_22, ↓dVar_23, ↓dVar_24, ↓dVar_25, ↓sz_0, ↓sz_1, ↓sz_2, ↓sz_3, ↓sz_4, ↓sz_5, ↓sz_6, ↓sz_7, ↓sz_8, ↓sz_9, ↓sz_10, ↓sz_11, ↓sz_12, ↓sz_13, ↓u_dNewT, ↓u_sPutT, ↓u_sSeq, ↓u_sNext, ↓u_sSet, ↓u_sSetN, ↓u_sAsg, ↓u_sIf, ↓u_sRet, ↓u_sRetN, ↓u_sDrop, ↓u_sPar, ↓u_sFor, ↓u_sBreak, ↓u_sCont, ↓u_dC, ↓u_d2, ↓u_d1, ↓u_dTup, ↓u_dNew, ↓u_aNil, ↓u_aCons, ↓u_nLst, ↓u_tAnd', ↓u_tOr', ↓u_tNot', ↓u_dIf, ↓u_gName', ↓u_dCall, ↓u_dB, ↓u_dLenN, ↓u_dTupN, ↓u_dM, ↓u_iNew, ↓u_nLc, ↓u_dN1, ↓u_dCut, ↓u_nCutN, ↓u_nCatNN, ↓u_d2N, ↓u_dNN, ↓u_tYes', ↓u_dS, List.set_cons_zero, List.set_cons_succ, dwipe, ite_true, ite_false, Bool.false_eq_true, Bool.true_eq_false, Bool.not_true, Bool.not_false, beq_self_eq_true, decide_eq_true_eq, Bool.not_eq_true', decide_eq_false_iff_not, mput_same, mput_put, dends, List.length_cons, List.length_nil, true_and, and_true, Nat.reduceAdd, Nat.reduceEqDiff, Int.reduceToNat, ↓x_tabLen, ↓x_fr0, ↓x_fr1, ↓x_kn0, ↓x_kn1, ↓x_map, ↓x_at0, ↓x_at1, ↓x_len, ↓x_row, ↓x_cut, ↓x_tup2, ↓x_tupfr, ↓x_isiT, ↓x_isiK, ↓x_isiF, ↓x_notN, ↓x_getT, ↓x_putT, ↓x_notNM]
    refine ⟨small_div m0 (by omega), ?_⟩
    refine setK_of (n := i) (by omega) (by rw [List.length_map]; omega) ?_
    rw [← List.map_set]
    simp only [t_law_take_s7, ↓bK_bl, ↓lstK_lst, ↓intK_int, ↓optK_some, ↓tBool_, ↓dAndV_, ↓dOrV_, ↓dNotV_, ↓gI_, ↓gI0_, ↓gAdd_int, ↓gAdd_str, ↓gAdd_tup, ↓gAdd_ref, ↓gNeg_, ↓gIx_tup, ↓gIx_rl, ↓gIx_ref, ↓gIx_str, ↓atK_0, ↓atK_1, ↓atK_2, ↓atK_3, ↓atK_4, ↓atK_5, ↓atK_6, ↓atK_7, ↓atK_last, ↓setK_0, ↓setK_1, ↓setK_2, ↓setK_3, ↓gLen_str, ↓gLen_tup, ↓gLen_rl, ↓gLen_ref, ↓gTupleOf_tup, ↓gTupleOf_rl, ↓gTupleOf_ref, ↓seqK_tup, ↓seqK_rl, ↓seqK_ref, ↓nListOf_, ↓isLst_ref, ↓gAppend_, ↓gInsert_, ↓isStr_str, ↓strK_str, ↓gStrCount_, ↓dJoinN_, ↓gPopAt_, ↓nRange1_, ↓gPop_, ↓refK_ref, ↓dExtN_, ↓gExt_, ↓gSetIx_, ↓itK_some, ↓iRow_, ↓rowIt_tup, ↓rowIt_rl, ↓rowIt_str, ↓iRng1_, ↓iRng2_, ↓iZip_, ↓iEnum_, ↓gNil_, ↓gCons_, ↓gTup_, ↓gTup_ref, ↓gAbs_, ↓gMax2_, ↓gMin2_, ↓gInt_int, ↓gInt_bl, ↓gLe_int, ↓gIsN_non, ↓gIsN_tup, ↓gIsN_int, ↓gIsN_str, ↓gIsN_ref, ↓gIsN_bl, ↓isi_bool_bool, ↓isi_bool_int, ↓isi_int_int, ↓isi_int_bool, ↓isi_tuple_tup, ↓isi_int_tup, ↓isi_bool_tup, ↓isi_str_str, ↓isi_tuple_int, ↓isi_tuple_non, ↓gEq_int, ↓gNe_int, ↓gEq_bl, ↓gNe_bl, ↓gEq_str, ↓gNe_str, ↓gEq_int_non, ↓oNone_, ↓oSome_, ↓gCut_str, ↓gCut_tup, ↓gCut_ref, ↓gCut_rl, ↓rowK_rl, ↓rowK_ref, ↓nCut_, ↓nSorted_, ↓gSorted1_, ↓nRev_, ↓nCatEN_, ↓nRep_, ↓tupK_tup, ↓keysD_two, ↓dtK_dT, ↓gGetT_, ↓gPutT_, ↓nKeysT_, ↓gIsB_, ↓nRepE_, ↓dIxN_, ↓gSumN_, ↓gAllN_, ↓gAnyN_, ↓gAnyI_, ↓gMaxN_, ↓gMax1_rl, ↓gMax1_ref, ↓gMinN_, ↓gMin1_rl, ↓gMin1_ref, ↓gSum_rl, ↓gSum_ref, ↓dChain_, ↓sAug_, ↓gIndex_, ↓dVar_0, ↓dVar_1, ↓dVar_2, ↓dVar_3, ↓dVar_4, ↓dVar_5, ↓dVar_6, ↓dVar_7, ↓dVar_8, ↓dVar_9, ↓dVar_10, ↓dVar_11, ↓dVar_12, ↓dVar_13, ↓dVar_14, ↓dVar_15, ↓dVar_16, ↓dVar_17, ↓dVar_18, ↓dVar_19, ↓dVar_20, ↓dVar_21, ↓dVar_22, ↓dVar_23, ↓dVar_24, ↓dVar_25, ↓sz_0, ↓sz_1, ↓sz_2, ↓sz_3, ↓sz_4, ↓sz_5, ↓sz_6, ↓sz_7, ↓sz_8, ↓sz_9, ↓sz_10, ↓sz_11, ↓sz_12, ↓sz_13, ↓u_dNewT, ↓u_sPutT, ↓u_sSeq, ↓u_sNext, ↓u_sSet, ↓u_sSetN, ↓u_sAsg, ↓u_sIf, ↓u_sRet, ↓u_sRetN, ↓u_sDrop, ↓u_sPar, ↓u_sFor, ↓u_sBreak, ↓u_sCont, ↓u_dC, ↓u_d2, ↓u_d1, ↓u_dTup, ↓u_dNew, ↓u_aNil, ↓u_aCons, ↓u_nLst, ↓u_tAnd', ↓u_tOr', ↓u_tNot', ↓u_dIf, ↓u_gName', ↓u_dCall, ↓u_dB, ↓u_dLenN, ↓u_dTupN, ↓u_dM, ↓u_iNew, ↓u_nLc, ↓u_dN1, ↓u_dCut, ↓u_nCutN, ↓u_nCatNN, ↓u_d2N, ↓u_dNN, ↓u_tYes', ↓u_dS, List.set_cons_zero, List.set_cons_succ, dwipe, ite_true, ite_false, Bool.false_eq_true, Bool.true_eq_false, Bool.not_true, Bool.not_false, beq_self_eq_true, decide_eq_true_eq, Bool.not_eq_true', decide_eq_false_iff_not, mput_same, mput_put, dends, List.length_cons, List.length_nil, true_and, and_true, Nat.reduceAdd, Nat.reduceEqDiff, Int.reduceToNat, ↓x_tabLen, ↓x_fr0, ↓x_fr1, ↓x_kn0, ↓x_kn1, ↓x_map, ↓x_at0, ↓x_at1, ↓x_len, ↓x_row, ↓x_cut, ↓x_tup2, ↓x_tupfr, ↓x_isiT, ↓x_isiK, ↓x_isiF, ↓x_notN, ↓x_getT, ↓x_putT, ↓x_notNM]
    refine ⟨m0, ?_⟩
    refine fin_of (hR _ _ (Int.emod_nonneg _ (by omega)) (Int.emod_lt_of_pos _ m0) ⟨cs.set i (z / many), k + 1, s, ?_, mput_same, by rw [List.length_set]; omega, by rw [List.length_set]; omega, by omega, by omega, s0, s1⟩ ?_)
    · rw [mput_ne (Ne.symm hab)]
      exact mput_same
    · intro x xa xb
      rw [mput_ne xb, mput_ne xa]
  have draw : ∀ q4 : Option D, t_law_take_s4 (dends R) [some (.ref a), some (.int many), some (.int i), some (.int z), some (.int ((s + 7919 * (k + 1)) % 2147483587 * 69621 % 2147483629))] (mput m a (O.lst [D.ref b, D.int (k + 1), D.int s])) := by
    intro _
    have y0 := Int.emod_nonneg ((s + 7919 * (k + 1)) % 2147483587 * 69621) (show (2147483629 : Int) ≠ 0 by decide)
    have y1 := Int.emod_lt_of_pos ((s + 7919 * (k + 1)) % 2147483587 * 69621) (show (0 : Int) < 2147483629 by decide)
    generalize (s + 7919 * (k + 1)) % 2147483587 * 69621 % 2147483629 = y at y0 y1 ⊢
    simp only [t_law_take_s4, mput_same, ↓bK_bl, ↓lstK_lst, ↓intK_int, ↓optK_some, ↓tBool_, ↓dAndV_, ↓dOrV_, ↓dNotV_, ↓gI_, ↓gI0_, ↓gAdd_int, ↓gAdd_str, ↓gAdd_tup, ↓gAdd_ref, ↓gNeg_, ↓gIx_tup, ↓gIx_rl, ↓gIx_ref, ↓gIx_str, ↓atK_0, ↓atK_1, ↓atK_2, ↓atK_3, ↓atK_4, ↓atK_5, ↓atK_6, ↓atK_7, ↓atK_last, ↓setK_0, ↓setK_1, ↓setK_2, ↓setK_3, ↓gLen_str, ↓gLen_tup, ↓gLen_rl, ↓gLen_ref, ↓gTupleOf_tup, ↓gTupleOf_rl, ↓gTupleOf_ref, ↓seqK_tup, ↓seqK_rl, ↓seqK_ref, ↓nListOf_, ↓isLst_ref, ↓gAppend_, ↓gInsert_, ↓isStr_str, ↓strK_str, ↓gStrCount_, ↓dJoinN_, ↓gPopAt_, ↓nRange1_, ↓gPop_, ↓refK_ref, ↓dExtN_, ↓gExt_, ↓gSetIx_, ↓itK_some, ↓iRow_, ↓rowIt_tup, ↓rowIt_rl, ↓rowIt_str, ↓iRng1_, ↓iRng2_, ↓iZip_, ↓iEnum_, ↓gNil_, ↓gCons_, ↓gTup_, ↓gTup_ref, ↓gAbs_, ↓gMax2_, ↓gMin2_, ↓gInt_int, ↓gInt_bl, ↓gLe_int, ↓gIsN_non, ↓gIsN_tup, ↓gIsN_int, ↓gIsN_str, ↓gIsN_ref, ↓gIsN_bl, ↓isi_bool_bool, ↓isi_bool_int, ↓isi_int_int, ↓isi_int_bool, ↓isi_tuple_tup, ↓isi_int_tup, ↓isi_bool_tup, ↓isi_str_str, ↓isi_tuple_int, ↓isi_tuple_non, ↓gEq_int, ↓gNe_int, ↓gEq_bl, ↓gNe_bl, ↓gEq_str, ↓gNe_str, ↓gEq_int_non, ↓oNone_, ↓oSome_, ↓gCut_str, ↓gCut_tup, ↓gCut_ref, ↓gCut_rl, ↓rowK_rl, ↓rowK_ref, ↓nCut_, ↓nSorted_, ↓gSorted1_, ↓nRev_, ↓nCatEN_, ↓nRep_, ↓tupK_tup, ↓keysD_two, ↓dtK_dT, ↓gGetT_, ↓gPutT_, ↓nKeysT_, ↓gIsB_, ↓nRepE_, ↓dIxN_, ↓gSumN_, ↓gAllN_, ↓gAnyN_, ↓gAnyI_, ↓gMaxN_, ↓gMax1_rl, ↓gMax1_ref, ↓gMinN_, ↓gMin1_rl, ↓gMin1_ref, ↓gSum_rl, ↓gSum_ref, ↓dChain_, ↓sAug_, ↓gIndex_, ↓dVar_0, ↓dVar_1, ↓dVar_2, ↓dVar_3, ↓dVar_4, ↓dVar_5, ↓dVar_6, ↓dVar_7, ↓dVar_8, ↓dVar_9, ↓dVar_10, ↓dVar_11, ↓dVar_12, ↓dVar_13, ↓dVar_14, ↓dVar_15, ↓dVar_16, ↓dVar_17, ↓dVar_18, ↓dVar_19, ↓dVar_20, ↓dVar_21, ↓dVar_22, ↓dVar_23, ↓dVar_24, ↓dVar_25, ↓sz_0, ↓sz_1, ↓sz_2, ↓sz_3, ↓sz_4, ↓sz_5, ↓sz_6, ↓sz_7, ↓sz_8, ↓sz_9, ↓sz_10, ↓sz_11, ↓sz_12, ↓sz_13, ↓u_dNewT, ↓u_sPutT, ↓u_sSeq, ↓u_sNext, ↓u_sSet, ↓u_sSetN, ↓u_sAsg, ↓u_sIf, ↓u_sRet, ↓u_sRetN, ↓u_sDrop, ↓u_sPar, ↓u_sFor, ↓u_sBreak, ↓u_sCont, ↓u_dC, ↓u_d2, ↓u_d1, ↓u_dTup, ↓u_dNew, ↓u_aNil, ↓u_aCons, ↓u_nLst, ↓u_tAnd', ↓u_tOr', ↓u_tNot', ↓u_dIf, ↓u_gName', ↓u_dCall, ↓u_dB, ↓u_dLenN, ↓u_dTupN, ↓u_dM, ↓u_iNew, ↓u_nLc, ↓u_dN1, ↓u_dCut, ↓u_nCutN, ↓u_nCatNN, ↓u_d2N, ↓u_dNN, ↓u_tYes', ↓u_dS, List.set_cons_zero, List.set_cons_succ, dwipe, ite_true, ite_false, Bool.false_eq_true, Bool.true_eq_false, Bool.not_true, Bool.not_false, beq_self_eq_true, decide_eq_true_eq, Bool.not_eq_true', decide_eq_false_iff_not, mput_same, mput_put, dends, List.length_cons, List.length_nil, true_and, and_true, Nat.reduceAdd, Nat.reduceEqDiff, Int.reduceToNat, ↓x_tabLen, ↓x_fr0, ↓x_fr1, ↓x_kn0, ↓x_kn1, ↓x_map, ↓x_at0, ↓x_at1, ↓x_len, ↓x_row, ↓x_cut, ↓x_tup2, ↓x_tupfr, ↓x_isiT, ↓x_isiK, ↓x_isiF, ↓x_notN, ↓x_getT, ↓x_putT, ↓x_notNM]
    refine ⟨mul_l (by omega) (by omega), mul_l (by decide) (by decide), show (0 : Int) < 2147483563 by decide, mul_r (by decide) (by decide), show (0 : Int) < 2147483549 by decide, ?_⟩
    simp only [t_law_take_s5, ↓bK_bl, ↓lstK_lst, ↓intK_int, ↓optK_some, ↓tBool_, ↓dAndV_, ↓dOrV_, ↓dNotV_, ↓gI_, ↓gI0_, ↓gAdd_int, ↓gAdd_str, ↓gAdd_tup, ↓gAdd_ref, ↓gNeg_, ↓gIx_tup, ↓gIx_rl, ↓gIx_ref, ↓gIx_str, ↓atK_0, ↓atK_1, ↓atK_2, ↓atK_3, ↓atK_4, ↓atK_5, ↓atK_6, ↓atK_7, ↓atK_last, ↓setK_0, ↓setK_1, ↓setK_2, ↓setK_3, ↓gLen_str, ↓gLen_tup, ↓gLen_rl, ↓gLen_ref, ↓gTupleOf_tup, ↓gTupleOf_rl, ↓gTupleOf_ref, ↓seqK_tup, ↓seqK_rl, ↓seqK_ref, ↓nListOf_, ↓isLst_ref, ↓gAppend_, ↓gInsert_, ↓isStr_str, ↓strK_str, ↓gStrCount_, ↓dJoinN_, ↓gPopAt_, ↓nRange1_, ↓gPop_, ↓refK_ref, ↓dExtN_, ↓gExt_, ↓gSetIx_, ↓itK_some, ↓iRow_, ↓rowIt_tup, ↓rowIt_rl, ↓rowIt_str, ↓iRng1_, ↓iRng2_, ↓iZip_, ↓iEnum_, ↓gNil_, ↓gCons_, ↓gTup_, ↓gTup_ref, ↓gAbs_, ↓gMax2_, ↓gMin2_, ↓gInt_int, ↓gInt_bl, ↓gLe_int, ↓gIsN_non, ↓gIsN_tup, ↓gIsN_int, ↓gIsN_str, ↓gIsN_ref, ↓gIsN_bl, ↓isi_bool_bool, ↓isi_bool_int, ↓isi_int_int, ↓isi_int_bool, ↓isi_tuple_tup, ↓isi_int_tup, ↓isi_bool_tup, ↓isi_str_str, ↓isi_tuple_int, ↓isi_tuple_non, ↓gEq_int, ↓gNe_int, ↓gEq_bl, ↓gNe_bl, ↓gEq_str, ↓gNe_str, ↓gEq_int_non, ↓oNone_, ↓oSome_, ↓gCut_str, ↓gCut_tup, ↓gCut_ref, ↓gCut_rl, ↓rowK_rl, ↓rowK_ref, ↓nCut_, ↓nSorted_, ↓gSorted1_, ↓nRev_, ↓nCatEN_, ↓nRep_, ↓tupK_tup, ↓keysD_two, ↓dtK_dT, ↓gGetT_, ↓gPutT_, ↓nKeysT_, ↓gIsB_, ↓nRepE_, ↓dIxN_, ↓gSumN_, ↓gAllN_, ↓gAnyN_, ↓gAnyI_, ↓gMaxN_, ↓gMax1_rl, ↓gMax1_ref, ↓gMinN_, ↓gMin1_rl, ↓gMin1_ref, ↓gSum_rl, ↓gSum_ref, ↓dChain_, ↓sAug_, ↓gIndex_, ↓dVar_0, ↓dVar_1, ↓dVar_2, ↓dVar_3, ↓dVar_4, ↓dVar_5, ↓dVar_6, ↓dVar_7, ↓dVar_8, ↓dVar_9, ↓dVar_10, ↓dVar_11, ↓dVar_12, ↓dVar_13, ↓dVar_14, ↓dVar_15, ↓dVar_16, ↓dVar_17, ↓dVar_18, ↓dVar_19, ↓dVar_20, ↓dVar_21, ↓dVar_22, ↓dVar_23, ↓dVar_24, ↓dVar_25, ↓sz_0, ↓sz_1, ↓sz_2, ↓sz_3, ↓sz_4, ↓sz_5, ↓sz_6, ↓sz_7, ↓sz_8, ↓sz_9, ↓sz_10, ↓sz_11, ↓sz_12, ↓sz_13, ↓u_dNewT, ↓u_sPutT, ↓u_sSeq, ↓u_sNext, ↓u_sSet, ↓u_sSetN, ↓u_sAsg, ↓u_sIf, ↓u_sRet, ↓u_sRetN, ↓u_sDrop, ↓u_sPar, ↓u_sFor, ↓u_sBreak, ↓u_sCont, ↓u_dC, ↓u_d2, ↓u_d1, ↓u_dTup, ↓u_dNew, ↓u_aNil, ↓u_aCons, ↓u_nLst, ↓u_tAnd', ↓u_tOr', ↓u_tNot', ↓u_dIf, ↓u_gName', ↓u_dCall, ↓u_dB, ↓u_dLenN, ↓u_dTupN, ↓u_dM, ↓u_iNew, ↓u_nLc, ↓u_dN1, ↓u_dCut, ↓u_nCutN, ↓u_nCatNN, ↓u_d2N, ↓u_dNN, ↓u_tYes', ↓u_dS, List.set_cons_zero, List.set_cons_succ, dwipe, ite_true, ite_false, Bool.false_eq_true, Bool.true_eq_false, Bool.not_true, Bool.not_false, beq_self_eq_true, decide_eq_true_eq, Bool.not_eq_true', decide_eq_false_iff_not, mput_same, mput_put, dends, List.length_cons, List.length_nil, true_and, and_true, Nat.reduceAdd, Nat.reduceEqDiff, Int.reduceToNat, ↓x_tabLen, ↓x_fr0, ↓x_fr1, ↓x_kn0, ↓x_kn1, ↓x_map, ↓x_at0, ↓x_at1, ↓x_len, ↓x_row, ↓x_cut, ↓x_tup2, ↓x_tupfr, ↓x_isiT, ↓x_isiK, ↓x_isiF, ↓x_notN, ↓x_getT, ↓x_putT, ↓x_notNM]
    refine ⟨small_div (by decide) (by decide), m0, ?_⟩
    refine fin_of (hR _ _ (Int.emod_nonneg _ (by omega)) (Int.emod_lt_of_pos _ m0) ⟨cs, k + 1, s, mput_same, hB2 _, c1, c2, by omega, by omega, s0, s1⟩ ?_)
    intro x xa xb
    rw [mput_ne xa]
  by_cases z0 : z = 0
  · rw [if_pos z0]
    refine ⟨mul_l (by decide) (by decide), show (0 : Int) < 2147483587 by decide, mul_r (by decide) (by decide), show (0 : Int) < 2147483629 by decide, ?_⟩
    exact draw none
  · rw [if_neg z0]
    by_cases z1 : z = -1
    · rw [if_pos z1]
      refine ⟨mul_l (by decide) (by decide), show (0 : Int) < 2147483587 by decide, mul_r (by decide) (by decide), show (0 : Int) < 2147483629 by decide, ?_⟩
      exact draw none
    · rw [if_neg z1]
      exact lose

/-! ### law_long -/
def t_law_long_s5 : DTS :=
  (sRet (dTupN (nLc (iRow (dVar 4)) (gName' 5) tYes' (dTupN (nLc (iRow (dVar 4)) (gName' 6) tYes' (dIx (dIx (dVar 2) (dVar 5)) (dVar 6)) [6])) [5])))
def t_law_long_s4 : DTS :=
  (sSeq (sSetN 4 (nLc (iRng1' (dVar 1)) (gName' 5) tYes' (dM gPopAt (dVar 3) (aCons (dCall sp_law_take (aCons (dVar 0) (aCons (dB gLen (aCons (dVar 3) aNil)) aNil))) aNil)) [5])) t_law_long_s5)
def t_law_long_s3 : DTS :=
  (sSeq (sSetN 3 (nRange1 (dVar 1))) t_law_long_s4)
def t_law_long_s2 : DTS :=
  (sSeq (sAsg (dC (.int 1)) (gSetIx (dIx (dVar 2) (dSub (dVar 1) (dC (.int 1)))) (dMod (dC (.int 1)) (dVar 1)))) t_law_long_s3)
def t_law_long_s1 : DTS :=
  (sSeq (sSetN 2 (nLc (iRng1' (dVar 1)) (gName' 5) tYes' (dNew (nLc (iRng1' (dVar 1)) (gName' 6) tYes' (dB gInt (aCons (dEq (dVar 6) (dMod (dPlus (dVar 5) (dC (.int 1))) (dVar 1))) aNil)) [6])) [5])) t_law_long_s2)
def t_law_long : DTS :=
  (sSeq (sSet 1 (dPlus (dC (.int 1)) (dCall sp_law_take (aCons (dVar 0) (aCons (dIxN (nLst (aCons (dC (.int 8)) (aCons (dC (.int 12)) aNil))) (dB gInt (aCons (dEq (dCall sp_law_take (aCons (dVar 0) (aCons (dC (.int 4)) aNil))) (dC (.int 0))) aNil))) aNil))))) t_law_long_s1)
def sp_law_long : DSp := fun ds m R _ => ∃ (a b : Addr) (N : Nat), ds = [.ref a] ∧ TDeck N m a b ∧ N < 2 ^ 40 ∧ ∀ (n : Nat) (t : List (List Int)) (m' : Mu), Tab n t → TDeck (N + 1000) m' a b → R (tabD t) m'
theorem len_law_long : ∀ ds m R E, sp_law_long ds m R E → ds.length = (["deck"] : List Str).length := by
  rintro ds m R E ⟨a, b, c, rfl, _⟩; rfl
/-- rows by address, none of them of the deck -/
structure Rwl (a b rw : Addr) (n : Nat) (rs : List Addr) (M : Mu) : Prop where
  len : rs.length = n
  row : ∀ c ∈ rs, (c ≠ a ∧ c ≠ b ∧ c ≠ rw) ∧ ∃ r, M c = some (.lst (r.map D.int)) ∧ RowOk n r
  rwL : M rw = some (.lst (rs.map D.ref))
  rwa : rw ≠ a ∧ rw ≠ b
section
variable {a b rw x c : Addr} {n : Nat} {rs : List Addr} {M M' : Mu} {o : O}
theorem Rwl.sub (h : Rwl a b rw n rs M) (hs : Sub M M') : Rwl a b rw n rs M' :=
  ⟨h.len, fun c hc => ⟨(h.row c hc).1, by obtain ⟨r, h1, h2⟩ := (h.row c hc).2; exact ⟨r, hs _ _ h1, h2⟩⟩, hs _ _ h.rwL, h.rwa⟩
theorem Rwl.eq2 (h : Rwl a b rw n rs M) (he : Eq2 a b M M') : Rwl a b rw n rs M' :=
  ⟨h.len, fun c hc => ⟨(h.row c hc).1, by obtain ⟨r, h1, h2⟩ := (h.row c hc).2; exact ⟨r, by rw [he c (h.row c hc).1.1 (h.row c hc).1.2.1]; exact h1, h2⟩⟩, by rw [he rw h.rwa.1 h.rwa.2]; exact h.rwL, h.rwa⟩
theorem Rwl.put (h : Rwl a b rw n rs M) (xw : x ≠ rw) (xn : x ∉ rs) : Rwl a b rw n rs (mput M x o) :=
  ⟨h.len, fun c hc => ⟨(h.row c hc).1, by
    obtain ⟨r, h1, h2⟩ := (h.row c hc).2
    exact ⟨r, by rw [mput_ne (show c ≠ x from fun e => xn (by rw [← e]; exact hc))]; exact h1, h2⟩⟩, by rw [mput_ne (Ne.symm xw)]; exact h.rwL, h.rwa⟩
theorem Rwl.inp (h : Rwl a b rw n rs M) (hc : c ∈ rs) {r : List Int} (hr : RowOk n r) : Rwl a b rw n rs (mput M c (.lst (r.map D.int))) :=
  ⟨h.len, fun d hd => ⟨(h.row d hd).1, by
    by_cases e : d = c
    · subst e
      exact ⟨r, mput_same, hr⟩
    · obtain ⟨r', h1, h2⟩ := (h.row d hd).2
      exact ⟨r', by rw [mput_ne e]; exact h1, h2⟩⟩, by rw [mput_ne (Ne.symm (h.row c hc).1.2.2)]; exact h.rwL, h.rwa⟩
theorem Rwl.fresh (h : Rwl a b rw n rs M) (hc : M c = none) : c ≠ rw ∧ c ∉ rs := by
  refine ⟨Ne.symm (ne_of h.rwL hc), fun hm => ?_⟩
  obtain ⟨r, h1, _⟩ := (h.row c hm).2
  rw [h1] at hc
  cases hc
end
theorem rd_law_long : ∀ ds m R E, sp_law_long ds m R E → t_law_long (dends R) (dstart 7 ds) m := by
  rintro ds m R E ⟨a, b, N, rfl, hD, hN, hR⟩
  show t_law_long (dends R) [some (.ref a), none, none, none, none, none, none] m
  have hsl := sizeLine_eq
  simp only [t_law_long, ↓bK_bl, ↓lstK_lst, ↓intK_int, ↓optK_some, ↓tBool_, ↓dAndV_, ↓dOrV_, ↓dNotV_, ↓gI_, ↓gI0_, ↓gAdd_int, ↓gAdd_str, ↓gAdd_tup, ↓gAdd_ref, ↓gNeg_, ↓gIx_tup, ↓gIx_rl, ↓gIx_ref, ↓gIx_str, ↓atK_0, ↓atK_1, ↓atK_2, ↓atK_3, ↓atK_4, ↓atK_5, ↓atK_6, ↓atK_7, ↓atK_last, ↓setK_0, ↓setK_1, ↓setK_2, ↓setK_3, ↓gLen_str, ↓gLen_tup, ↓gLen_rl, ↓gLen_ref, ↓gTupleOf_tup, ↓gTupleOf_rl, ↓gTupleOf_ref, ↓seqK_tup, ↓seqK_rl, ↓seqK_ref, ↓nListOf_, ↓isLst_ref, ↓gAppend_, ↓gInsert_, ↓isStr_str, ↓strK_str, ↓gStrCount_, ↓dJoinN_, ↓gPopAt_, ↓nRange1_, ↓gPop_, ↓refK_ref, ↓dExtN_, ↓gExt_, ↓gSetIx_, ↓itK_some, ↓iRow_, ↓rowIt_tup, ↓rowIt_rl, ↓rowIt_str, ↓iRng1_, ↓iRng2_, ↓iZip_, ↓iEnum_, ↓gNil_, ↓gCons_, ↓gTup_, ↓gTup_ref, ↓gAbs_, ↓gMax2_, ↓gMin2_, ↓gInt_int, ↓gInt_bl, ↓gLe_int, ↓gIsN_non, ↓gIsN_tup, ↓gIsN_int, ↓gIsN_str, ↓gIsN_ref, ↓gIsN_bl, ↓isi_bool_bool, ↓isi_bool_int, ↓isi_int_int, ↓isi_int_bool, ↓isi_tuple_tup, ↓isi_int_tup, ↓isi_bool_tup, ↓isi_str_str, ↓isi_tuple_int, ↓isi_tuple_non, ↓gEq_int, ↓gNe_int, ↓gEq_bl, ↓gNe_bl, ↓gEq_str, ↓gNe_str, ↓gEq_int_non, ↓oNone_, ↓oSome_, ↓gCut_str, ↓gCut_tup, ↓gCut_ref, ↓gCut_rl, ↓rowK_rl, ↓rowK_ref, ↓nCut_, ↓nSorted_, ↓gSorted1_, ↓nRev_, ↓nCatEN_, ↓nRep_, ↓tupK_tup, ↓keysD_two, ↓dtK_dT, ↓gGetT_, ↓gPutT_, ↓nKeysT_, ↓gIsB_, ↓nRepE_, ↓dIxN_, ↓gSumN_, ↓gAllN_, ↓gAnyN_, ↓gAnyI_, ↓gMaxN_, ↓gMax1_rl, ↓gMax1_ref, ↓gMinN_, ↓gMin1_rl, ↓gMin1_ref, ↓gSum_rl, ↓gSum_ref, ↓dChain_, ↓sAug_, ↓gIndex_, ↓dVar_0, ↓dVar_1, ↓dVar_2, ↓dVar_3, ↓dVar_4, ↓dVar_5, ↓dVar_6, ↓dVar_7, ↓dVar_8, ↓dVar_9, ↓dVar_10, ↓dVar_11, ↓dVar_12, ↓dVar_13, ↓dVar_14, ↓dVar_15, ↓dVar_16, ↓dVar_17, ↓dVar_18, ↓dVar_19, ↓dVar_20, ↓dVar_21, ↓dVar_22, ↓dVar_23, ↓dVar_24, ↓dVar_25, ↓sz_0, ↓sz_1, ↓sz_2, ↓sz_3, ↓sz_4, ↓sz_5, ↓sz_6, ↓sz_7, ↓sz_8, ↓sz_9, ↓sz_10, ↓sz_11, ↓sz_12, ↓sz_13, ↓u_dNewT, ↓u_sPutT, ↓u_sSeq, ↓u_sNext, ↓u_sSet, ↓u_sSetN, ↓u_sAsg, ↓u_sIf, ↓u_sRet, ↓u_sRetN, ↓u_sDrop, ↓u_sPar, ↓u_sFor, ↓u_sBreak, ↓u_sCont, ↓u_dC, ↓u_d2, ↓u_d1, ↓u_dTup, ↓u_dNew, ↓u_aNil, ↓u_aCons, ↓u_nLst, ↓u_tAnd', ↓u_tOr', ↓u_tNot', ↓u_dIf, ↓u_gName', ↓u_dCall, ↓u_dB, ↓u_dLenN, ↓u_dTupN, ↓u_dM, ↓u_iNew, ↓u_nLc, ↓u_dN1, ↓u_dCut, ↓u_nCutN, ↓u_nCatNN, ↓u_d2N, ↓u_dNN, ↓u_tYes', ↓u_dS, List.set_cons_zero, List.set_cons_succ, dwipe, ite_true, ite_false, Bool.false_eq_true, Bool.true_eq_false, Bool.not_true, Bool.not_false, beq_self_eq_true, decide_eq_true_eq, Bool.not_eq_true', decide_eq_false_iff_not, mput_same, mput_put, dends, List.length_cons, List.length_nil, true_and, and_true, Nat.reduceAdd, Nat.reduceEqDiff, Int.reduceToNat, ↓x_tabLen, ↓x_fr0, ↓x_fr1, ↓x_kn0, ↓x_kn1, ↓x_map, ↓x_at0, ↓x_at1, ↓x_len, ↓x_row, ↓x_cut, ↓x_tup2, ↓x_tupfr, ↓x_isiT, ↓x_isiK, ↓x_isiF, ↓x_notN, ↓x_getT, ↓x_putT, ↓x_notNM]
  refine ⟨a, b, 4, N, rfl, hD, by omega, by decide, by decide, fun v m1 v0 v1 hD1 _ => ?_⟩
  try simp only [↓bK_bl, ↓lstK_lst, ↓intK_int, ↓optK_some, ↓tBool_, ↓dAndV_, ↓dOrV_, ↓dNotV_, ↓gI_, ↓gI0_, ↓gAdd_int, ↓gAdd_str, ↓gAdd_tup, ↓gAdd_ref, ↓gNeg_, ↓gIx_tup, ↓gIx_rl, ↓gIx_ref, ↓gIx_str, ↓atK_0, ↓atK_1, ↓atK_2, ↓atK_3, ↓atK_4, ↓atK_5, ↓atK_6, ↓atK_7, ↓atK_last, ↓setK_0, ↓setK_1, ↓setK_2, ↓setK_3, ↓gLen_str, ↓gLen_tup, ↓gLen_rl, ↓gLen_ref, ↓gTupleOf_tup, ↓gTupleOf_rl, ↓gTupleOf_ref, ↓seqK_tup, ↓seqK_rl, ↓seqK_ref, ↓nListOf_, ↓isLst_ref, ↓gAppend_, ↓gInsert_, ↓isStr_str, ↓strK_str, ↓gStrCount_, ↓dJoinN_, ↓gPopAt_, ↓nRange1_, ↓gPop_, ↓refK_ref, ↓dExtN_, ↓gExt_, ↓gSetIx_, ↓itK_some, ↓iRow_, ↓rowIt_tup, ↓rowIt_rl, ↓rowIt_str, ↓iRng1_, ↓iRng2_, ↓iZip_, ↓iEnum_, ↓gNil_, ↓gCons_, ↓gTup_, ↓gTup_ref, ↓gAbs_, ↓gMax2_, ↓gMin2_, ↓gInt_int, ↓gInt_bl, ↓gLe_int, ↓gIsN_non, ↓gIsN_tup, ↓gIsN_int, ↓gIsN_str, ↓gIsN_ref, ↓gIsN_bl, ↓isi_bool_bool, ↓isi_bool_int, ↓isi_int_int, ↓isi_int_bool, ↓isi_tuple_tup, ↓isi_int_tup, ↓isi_bool_tup, ↓isi_str_str, ↓isi_tuple_int, ↓isi_tuple_non, ↓gEq_int, ↓gNe_int, ↓gEq_bl, ↓gNe_bl, ↓gEq_str, ↓gNe_str, ↓gEq_int_non, ↓oNone_, ↓oSome_, ↓gCut_str, ↓gCut_tup, ↓gCut_ref, ↓gCut_rl, ↓rowK_rl, ↓rowK_ref, ↓nCut_, ↓nSorted_, ↓gSorted1_, ↓nRev_, ↓nCatEN_, ↓nRep_, ↓tupK_tup, ↓keysD_two, ↓dtK_dT, ↓gGetT_, ↓gPutT_, ↓nKeysT_, ↓gIsB_, ↓nRepE_, ↓dIxN_, ↓gSumN_, ↓gAllN_, ↓gAnyN_, ↓gAnyI_, ↓gMaxN_, ↓gMax1_rl, ↓gMax1_ref, ↓gMinN_, ↓gMin1_rl, ↓gMin1_ref, ↓gSum_rl, ↓gSum_ref, ↓dChain_, ↓sAug_, ↓gIndex_, ↓dVar_0, ↓dVar_1, ↓dVar_2, ↓dVar_3, ↓dVar_4, ↓dVar_5, ↓dVar_6, ↓dVar_7, ↓dVar_8, ↓dVar_9, ↓dVar_10, ↓dVar_11, ↓dVar_12, ↓dVar_13, ↓dVar_14, ↓dVar_15, ↓dVar_16, ↓dVar_17, ↓dVar_18, ↓dVar_19, ↓dVar_20, ↓dVar_21, ↓dVar_22, ↓dVar_23, ↓dVar_24, ↓dVar_25, ↓sz_0, ↓sz_1, ↓sz_2, ↓sz_3, ↓sz_4, ↓sz_5, ↓sz_6, ↓sz_7, ↓sz_8, ↓sz_9, ↓sz_10, ↓sz_11, ↓sz_12, ↓sz_13, ↓u_dNewT, ↓u_sPutT, ↓u_sSeq, ↓u_sNext, ↓u_sSet, ↓u_sSetN, ↓u_sAsg, ↓u_sIf, ↓u_sRet, ↓u_sRetN, ↓u_sDrop, ↓u_sPar, ↓u_sFor, ↓u_sBreak, ↓u_sCont, ↓u_dC, ↓u_d2, ↓u_d1, ↓u_dTup, ↓u_dNew, ↓u_aNil, ↓u_aCons, ↓u_nLst, ↓u_tAnd', ↓u_tOr', ↓u_tNot', ↓u_dIf, ↓u_gName', ↓u_dCall, ↓u_dB, ↓u_dLenN, ↓u_dTupN, ↓u_dM, ↓u_iNew, ↓u_nLc, ↓u_dN1, ↓u_dCut, ↓u_nCutN, ↓u_nCatNN, ↓u_d2N, ↓u_dNN, ↓u_tYes', ↓u_dS, List.set_cons_zero, List.set_cons_succ, dwipe, ite_true, ite_false, Bool.false_eq_true, Bool.true_eq_false, Bool.not_true, Bool.not_false, beq_self_eq_true, decide_eq_true_eq, Bool.not_eq_true', decide_eq_false_iff_not, mput_same, mput_put, dends, List.length_cons, List.length_nil, true_and, and_true, Nat.reduceAdd, Nat.reduceEqDiff, Int.reduceToNat, ↓x_tabLen, ↓x_fr0, ↓x_fr1, ↓x_kn0, ↓x_kn1, ↓x_map, ↓x_at0, ↓x_at1, ↓x_len, ↓x_row, ↓x_cut, ↓x_tup2, ↓x_tupfr, ↓x_isiT, ↓x_isiK, ↓x_isiF, ↓x_notN, ↓x_getT, ↓x_putT, ↓x_notNM]
  have fromO : ∀ (n : Nat) (rs : List Addr) (rw_ : Addr) (M : Mu), 1 ≤ n → n ≤ 12 → Rwl a b rw_ n rs M → TDeck (N + 2) M a b → t_law_long_s3 (dends R) [some (.ref a), some (.int n), some (.ref rw_), none, none, none, none] M := by
    intro n rs rw_ M n1 n2 hW hT
    simp only [t_law_long_s3, ↓bK_bl, ↓lstK_lst, ↓intK_int, ↓optK_some, ↓tBool_, ↓dAndV_, ↓dOrV_, ↓dNotV_, ↓gI_, ↓gI0_, ↓gAdd_int, ↓gAdd_str, ↓gAdd_tup, ↓gAdd_ref, ↓gNeg_, ↓gIx_tup, ↓gIx_rl, ↓gIx_ref, ↓gIx_str, ↓atK_0, ↓atK_1, ↓atK_2, ↓atK_3, ↓atK_4, ↓atK_5, ↓atK_6, ↓atK_7, ↓atK_last, ↓setK_0, ↓setK_1, ↓setK_2, ↓setK_3, ↓gLen_str, ↓gLen_tup, ↓gLen_rl, ↓gLen_ref, ↓gTupleOf_tup, ↓gTupleOf_rl, ↓gTupleOf_ref, ↓seqK_tup, ↓seqK_rl, ↓seqK_ref, ↓nListOf_, ↓isLst_ref, ↓gAppend_, ↓gInsert_, ↓isStr_str, ↓strK_str, ↓gStrCount_, ↓dJoinN_, ↓gPopAt_, ↓nRange1_, ↓gPop_, ↓refK_ref, ↓dExtN_, ↓gExt_, ↓gSetIx_, ↓itK_some, ↓iRow_, ↓rowIt_tup, ↓rowIt_rl, ↓rowIt_str, ↓iRng1_, ↓iRng2_, ↓iZip_, ↓iEnum_, ↓gNil_, ↓gCons_, ↓gTup_, ↓gTup_ref, ↓gAbs_, ↓gMax2_, ↓gMin2_, ↓gInt_int, ↓gInt_bl, ↓gLe_int, ↓gIsN_non, ↓gIsN_tup, ↓gIsN_int, ↓gIsN_str, ↓gIsN_ref, ↓gIsN_bl, ↓isi_bool_bool, ↓isi_bool_int, ↓isi_int_int, ↓isi_int_bool, ↓isi_tuple_tup, ↓isi_int_tup, ↓isi_bool_tup, ↓isi_str_str, ↓isi_tuple_int, ↓isi_tuple_non, ↓gEq_int, ↓gNe_int, ↓gEq_bl, ↓gNe_bl, ↓gEq_str, ↓gNe_str, ↓gEq_int_non, ↓oNone_, ↓oSome_, ↓gCut_str, ↓gCut_tup, ↓gCut_ref, ↓gCut_rl, ↓rowK_rl, ↓rowK_ref, ↓nCut_, ↓nSorted_, ↓gSorted1_, ↓nRev_, ↓nCatEN_, ↓nRep_, ↓tupK_tup, ↓keysD_two, ↓dtK_dT, ↓gGetT_, ↓gPutT_, ↓nKeysT_, ↓gIsB_, ↓nRepE_, ↓dIxN_, ↓gSumN_, ↓gAllN_, ↓gAnyN_, ↓gAnyI_, ↓gMaxN_, ↓gMax1_rl, ↓gMax1_ref, ↓gMinN_, ↓gMin1_rl, ↓gMin1_ref, ↓gSum_rl, ↓gSum_ref, ↓dChain_, ↓sAug_, ↓gIndex_, ↓dVar_0, ↓dVar_1, ↓dVar_2, ↓dVar_3, ↓dVar_4, ↓dVar_5, ↓dVar_6, ↓dVar_7, ↓dVar_8, ↓dVar_9, ↓dVar_10, ↓dVar_11, ↓dVar_12, ↓dVar_13, ↓dVar_14, ↓dVar_15, ↓dVar_16, ↓dVar_17, ↓dVar_18, ↓dVar_19, ↓dVar_20, ↓dVar_21, ↓dVar_22, ↓dVar_23, ↓dVar_24, ↓dVar_25, ↓sz_0, ↓sz_1, ↓sz_2, ↓sz_3, ↓sz_4, ↓sz_5, ↓sz_6, ↓sz_7, ↓sz_8, ↓sz_9, ↓sz_10, ↓sz_11, ↓sz_12, ↓sz_13, ↓u_dNewT, ↓u_sPutT, ↓u_sSeq, ↓u_sNext, ↓u_sSet, ↓u_sSetN, ↓u_sAsg, ↓u_sIf, ↓u_sRet, ↓u_sRetN, ↓u_sDrop, ↓u_sPar, ↓u_sFor, ↓u_sBreak, ↓u_sCont, ↓u_dC, ↓u_d2, ↓u_d1, ↓u_dTup, ↓u_dNew, ↓u_aNil, ↓u_aCons, ↓u_nLst, ↓u_tAnd', ↓u_tOr', ↓u_tNot', ↓u_dIf, ↓u_gName', ↓u_dCall, ↓u_dB, ↓u_dLenN, ↓u_dTupN, ↓u_dM, ↓u_iNew, ↓u_nLc, ↓u_dN1, ↓u_dCut, ↓u_nCutN, ↓u_nCatNN, ↓u_d2N, ↓u_dNN, ↓u_tYes', ↓u_dS, List.set_cons_zero, List.set_cons_succ, dwipe, ite_true, ite_false, Bool.false_eq_true, Bool.true_eq_false, Bool.not_true, Bool.not_false, beq_self_eq_true, decide_eq_true_eq, Bool.not_eq_true', decide_eq_false_iff_not, mput_same, mput_put, dends, List.length_cons, List.length_nil, true_and, and_true, Nat.reduceAdd, Nat.reduceEqDiff, Int.reduceToNat, ↓x_tabLen, ↓x_fr0, ↓x_fr1, ↓x_kn0, ↓x_kn1, ↓x_map, ↓x_at0, ↓x_at1, ↓x_len, ↓x_row, ↓x_cut, ↓x_tup2, ↓x_tupfr, ↓x_isiT, ↓x_isiK, ↓x_isiF, ↓x_notN, ↓x_getT, ↓x_putT, ↓x_notNM]
    refine ⟨by omega, fun od hod => ?_⟩
    rw [show ((n : Nat) : Int).toNat = n by omega]
    have odw := hW.fresh hod
    have oda := hT.na hod
    have odb := hT.nb hod
    have hW := hW.sub (Sub.new (o := .lst (rngItems 0 n)) hod)
    have hT := hT.new (o := .lst (rngItems 0 n)) hod
    have hO : ∃ os : List Int, mput M od (.lst (rngItems 0 n)) od = some (.lst (os.map D.int)) ∧ os.length = n ∧ ∀ z ∈ os, 0 ≤ z ∧ z < n := by
      refine ⟨(List.range n).map fun (j : Nat) => (j : Int), ?_, by simp, ?_⟩
      · rw [mput_same, rng_map, List.map_map]
        rfl
      · intro z hz
        obtain ⟨j, hj, rfl⟩ := List.mem_map.mp hz
        rw [List.mem_range] at hj
        omega
    generalize mput M od (.lst (rngItems 0 n)) = M1 at hW hT hO ⊢
    clear hod
    simp only [t_law_long_s4, ↓bK_bl, ↓lstK_lst, ↓intK_int, ↓optK_some, ↓tBool_, ↓dAndV_, ↓dOrV_, ↓dNotV_, ↓gI_, ↓gI0_, ↓gAdd_int, ↓gAdd_str, ↓gAdd_tup, ↓gAdd_ref, ↓gNeg_, ↓gIx_tup, ↓gIx_rl, ↓gIx_ref, ↓gIx_str, ↓atK_0, ↓atK_1, ↓atK_2, ↓atK_3, ↓atK_4, ↓atK_5, ↓atK_6, ↓atK_7, ↓atK_last, ↓setK_0, ↓setK_1, ↓setK_2, ↓setK_3, ↓gLen_str, ↓gLen_tup, ↓gLen_rl, ↓gLen_ref, ↓gTupleOf_tup, ↓gTupleOf_rl, ↓gTupleOf_ref, ↓seqK_tup, ↓seqK_rl, ↓seqK_ref, ↓nListOf_, ↓isLst_ref, ↓gAppend_, ↓gInsert_, ↓isStr_str, ↓strK_str, ↓gStrCount_, ↓dJoinN_, ↓gPopAt_, ↓nRange1_, ↓gPop_, ↓refK_ref, ↓dExtN_, ↓gExt_, ↓gSetIx_, ↓itK_some, ↓iRow_, ↓rowIt_tup, ↓rowIt_rl, ↓rowIt_str, ↓iRng1_, ↓iRng2_, ↓iZip_, ↓iEnum_, ↓gNil_, ↓gCons_, ↓gTup_, ↓gTup_ref, ↓gAbs_, ↓gMax2_, ↓gMin2_, ↓gInt_int, ↓gInt_bl, ↓gLe_int, ↓gIsN_non, ↓gIsN_tup, ↓gIsN_int, ↓gIsN_str, ↓gIsN_ref, ↓gIsN_bl, ↓isi_bool_bool, ↓isi_bool_int, ↓isi_int_int, ↓isi_int_bool, ↓isi_tuple_tup, ↓isi_int_tup, ↓isi_bool_tup, ↓isi_str_str, ↓isi_tuple_int, ↓isi_tuple_non, ↓gEq_int, ↓gNe_int, ↓gEq_bl, ↓gNe_bl, ↓gEq_str, ↓gNe_str, ↓gEq_int_non, ↓oNone_, ↓oSome_, ↓gCut_str, ↓gCut_tup, ↓gCut_ref, ↓gCut_rl, ↓rowK_rl, ↓rowK_ref, ↓nCut_, ↓nSorted_, ↓gSorted1_, ↓nRev_, ↓nCatEN_, ↓nRep_, ↓tupK_tup, ↓keysD_two, ↓dtK_dT, ↓gGetT_, ↓gPutT_, ↓nKeysT_, ↓gIsB_, ↓nRepE_, ↓dIxN_, ↓gSumN_, ↓gAllN_, ↓gAnyN_, ↓gAnyI_, ↓gMaxN_, ↓gMax1_rl, ↓gMax1_ref, ↓gMinN_, ↓gMin1_rl, ↓gMin1_ref, ↓gSum_rl, ↓gSum_ref, ↓dChain_, ↓sAug_, ↓gIndex_, ↓dVar_0, ↓dVar_1, ↓dVar_2, ↓dVar_3, ↓dVar_4, ↓dVar_5, ↓dVar_6, ↓dVar_7, ↓dVar_8, ↓dVar_9, ↓dVar_10, ↓dVar_11, ↓dVar_12, ↓dVar_13, ↓dVar_14, ↓dVar_15, ↓dVar_16, ↓dVar_17, ↓dVar_18, ↓dVar_19, ↓dVar_20, ↓dVar_21, ↓dVar_22, ↓dVar_23, ↓dVar_24, ↓dVar_25, ↓sz_0, ↓sz_1, ↓sz_2, ↓sz_3, ↓sz_4, ↓sz_5, ↓sz_6, ↓sz_7, ↓sz_8, ↓sz_9, ↓sz_10, ↓sz_11, ↓sz_12, ↓sz_13, ↓u_dNewT, ↓u_sPutT, ↓u_sSeq, ↓u_sNext, ↓u_sSet, ↓u_sSetN, ↓u_sAsg, ↓u_sIf, ↓u_sRet, ↓u_sRetN, ↓u_sDrop, ↓u_sPar, ↓u_sFor, ↓u_sBreak, ↓u_sCont, ↓u_dC, ↓u_d2, ↓u_d1, ↓u_dTup, ↓u_dNew, ↓u_aNil, ↓u_aCons, ↓u_nLst, ↓u_tAnd', ↓u_tOr', ↓u_tNot', ↓u_dIf, ↓u_gName', ↓u_dCall, ↓u_dB, ↓u_dLenN, ↓u_dTupN, ↓u_dM, ↓u_iNew, ↓u_nLc, ↓u_dN1, ↓u_dCut, ↓u_nCutN, ↓u_nCatNN, ↓u_d2N, ↓u_dNN, ↓u_tYes', ↓u_dS, List.set_cons_zero, List.set_cons_succ, dwipe, ite_true, ite_false, Bool.false_eq_true, Bool.true_eq_false, Bool.not_true, Bool.not_false, beq_self_eq_true, decide_eq_true_eq, Bool.not_eq_true', decide_eq_false_iff_not, mput_same, mput_put, dends, List.length_cons, List.length_nil, true_and, and_true, Nat.reduceAdd, Nat.reduceEqDiff, Int.reduceToNat, ↓x_tabLen, ↓x_fr0, ↓x_fr1, ↓x_kn0, ↓x_kn1, ↓x_map, ↓x_at0, ↓x_at1, ↓x_len, ↓x_row, ↓x_cut, ↓x_tup2, ↓x_tupfr, ↓x_isiT, ↓x_isiK, ↓x_isiF, ↓x_notN, ↓x_getT, ↓x_putT, ↓x_notNM]
    refine ⟨by omega, ?_⟩
    rw [show ((n : Nat) : Int).toNat = n by omega, rng_map]
    refine lc_ind _ (fun xs acc M => ∃ (os zs : List Int), acc = zs.map D.int ∧ zs.length + xs.length = n ∧ os.length = xs.length ∧ (∀ z ∈ os, 0 ≤ z ∧ z < n) ∧ (∀ z ∈ zs, 0 ≤ z ∧ z < n) ∧ M od = some (.lst (os.map D.int)) ∧ Rwl a b rw_ n rs M ∧ TDeck (N + 2 + zs.length) M a b) ?_ ?_ _ _ _ ?_
    · rintro acc M2 ⟨os, zs, rfl, h1, h2, h3, h4, h5, h6, h7⟩
      refine ⟨trivial, ?_⟩
      simp only [List.length_nil, Nat.add_zero] at h1
      intro sh hsh
      have hS : mput M2 sh (.lst (zs.map D.int)) sh = some (.lst (zs.map D.int)) := mput_same
      have h6 := h6.sub (Sub.new (o := .lst (zs.map D.int)) hsh)
      have h7 := h7.new (o := .lst (zs.map D.int)) hsh
      generalize mput M2 sh (.lst (zs.map D.int)) = M3 at hS h6 h7 ⊢
      simp only [t_law_long_s5, ↓bK_bl, ↓lstK_lst, ↓intK_int, ↓optK_some, ↓tBool_, ↓dAndV_, ↓dOrV_, ↓dNotV_, ↓gI_, ↓gI0_, ↓gAdd_int, ↓gAdd_str, ↓gAdd_tup, ↓gAdd_ref, ↓gNeg_, ↓gIx_tup, ↓gIx_rl, ↓gIx_ref, ↓gIx_str, ↓atK_0, ↓atK_1, ↓atK_2, ↓atK_3, ↓atK_4, ↓atK_5, ↓atK_6, ↓atK_7, ↓atK_last, ↓setK_0, ↓setK_1, ↓setK_2, ↓setK_3, ↓gLen_str, ↓gLen_tup, ↓gLen_rl, ↓gLen_ref, ↓gTupleOf_tup, ↓gTupleOf_rl, ↓gTupleOf_ref, ↓seqK_tup, ↓seqK_rl, ↓seqK_ref, ↓nListOf_, ↓isLst_ref, ↓gAppend_, ↓gInsert_, ↓isStr_str, ↓strK_str, ↓gStrCount_, ↓dJoinN_, ↓gPopAt_, ↓nRange1_, ↓gPop_, ↓refK_ref, ↓dExtN_, ↓gExt_, ↓gSetIx_, ↓itK_some, ↓iRow_, ↓rowIt_tup, ↓rowIt_rl, ↓rowIt_str, ↓iRng1_, ↓iRng2_, ↓iZip_, ↓iEnum_, ↓gNil_, ↓gCons_, ↓gTup_, ↓gTup_ref, ↓gAbs_, ↓gMax2_, ↓gMin2_, ↓gInt_int, ↓gInt_bl, ↓gLe_int, ↓gIsN_non, ↓gIsN_tup, ↓gIsN_int, ↓gIsN_str, ↓gIsN_ref, ↓gIsN_bl, ↓isi_bool_bool, ↓isi_bool_int, ↓isi_int_int, ↓isi_int_bool, ↓isi_tuple_tup, ↓isi_int_tup, ↓isi_bool_tup, ↓isi_str_str, ↓isi_tuple_int, ↓isi_tuple_non, ↓gEq_int, ↓gNe_int, ↓gEq_bl, ↓gNe_bl, ↓gEq_str, ↓gNe_str, ↓gEq_int_non, ↓oNone_, ↓oSome_, ↓gCut_str, ↓gCut_tup, ↓gCut_ref, ↓gCut_rl, ↓rowK_rl, ↓rowK_ref, ↓nCut_, ↓nSorted_, ↓gSorted1_, ↓nRev_, ↓nCatEN_, ↓nRep_, ↓tupK_tup, ↓keysD_two, ↓dtK_dT, ↓gGetT_, ↓gPutT_, ↓nKeysT_, ↓gIsB_, ↓nRepE_, ↓dIxN_, ↓gSumN_, ↓gAllN_, ↓gAnyN_, ↓gAnyI_, ↓gMaxN_, ↓gMax1_rl, ↓gMax1_ref, ↓gMinN_, ↓gMin1_rl, ↓gMin1_ref, ↓gSum_rl, ↓gSum_ref, ↓dChain_, ↓sAug_, ↓gIndex_, ↓dVar_0, ↓dVar_1, ↓dVar_2, ↓dVar_3, ↓dVar_4, ↓dVar_5, ↓dVar_6, ↓dVar_7, ↓dVar_8, ↓dVar_9, ↓dVar_10, ↓dVar_11, ↓dVar_12, ↓dVar_13, ↓dVar_14, ↓dVar_15, ↓dVar_16, ↓dVar_17, ↓dVar_18, ↓dVar_19, ↓dVar_20, ↓dVar_21, ↓dVar_22, ↓dVar_23, ↓dVar_24, ↓dVar_25, ↓sz_0, ↓sz_1, ↓sz_2, ↓sz_3, ↓sz_4, ↓sz_5, ↓sz_6, ↓sz_7, ↓sz_8, ↓sz_9, ↓sz_10, ↓sz_11, ↓sz_12, ↓sz_13, ↓u_dNewT, ↓u_sPutT, ↓u_sSeq, ↓u_sNext, ↓u_sSet, ↓u_sSetN, ↓u_sAsg, ↓u_sIf, ↓u_sRet, ↓u_sRetN, ↓u_sDrop, ↓u_sPar, ↓u_sFor, ↓u_sBreak, ↓u_sCont, ↓u_dC, ↓u_d2, ↓u_d1, ↓u_dTup, ↓u_dNew, ↓u_aNil, ↓u_aCons, ↓u_nLst, ↓u_tAnd', ↓u_tOr', ↓u_tNot', ↓u_dIf, ↓u_gName', ↓u_dCall, ↓u_dB, ↓u_dLenN, ↓u_dTupN, ↓u_dM, ↓u_iNew, ↓u_nLc, ↓u_dN1, ↓u_dCut, ↓u_nCutN, ↓u_nCatNN, ↓u_d2N, ↓u_dNN, ↓u_tYes', ↓u_dS, List.set_cons_zero, List.set_cons_succ, dwipe, ite_true, ite_false, Bool.false_eq_true, Bool.true_eq_false, Bool.not_true, Bool.not_false, beq_self_eq_true, decide_eq_true_eq, Bool.not_eq_true', decide_eq_false_iff_not, mput_same, mput_put, dends, List.length_cons, List.length_nil, true_and, and_true, Nat.reduceAdd, Nat.reduceEqDiff, Int.reduceToNat, ↓x_tabLen, ↓x_fr0, ↓x_fr1, ↓x_kn0, ↓x_kn1, ↓x_map, ↓x_at0, ↓x_at1, ↓x_len, ↓x_row, ↓x_cut, ↓x_tup2, ↓x_tupfr, ↓x_isiT, ↓x_isiK, ↓x_isiF, ↓x_notN, ↓x_getT, ↓x_putT, ↓x_notNM]
      rw [rowIt_lst hS, itK_some]
      have cell : ∀ z, 0 ≤ z → z < (n : Int) → ∃ r : List Int, RowOk n r ∧ ∀ (K : D → Prop), (∀ c, M3 c = some (.lst (r.map D.int)) → K (.ref c)) → atK (rs.map D.ref) z K := by
        intro z z0 z1
        have hz : z.toNat < rs.length := by rw [h6.len]; omega
        obtain ⟨_, r, hr, hrok⟩ := h6.row _ (List.getElem_mem hz)
        exact ⟨r, hrok, fun K hK => atK_of (n := z.toNat) (x := .ref rs[z.toNat]) (by omega) (by simp [hz]) (hK _ hr)⟩
      -- the rows, one by one
      refine lc_ind D.int (fun xs acc M => M3 = M ∧ (∀ z ∈ xs, 0 ≤ z ∧ z < (n : Int)) ∧ ∃ t : List (List Int), acc = t.map (fun r => D.tup (r.map D.int)) ∧ t.length + xs.length = n ∧ ∀ r ∈ t, RowOk n r) ?_ ?_ _ _ _ ⟨rfl, h4, [], rfl, by simpa using h1, by simp⟩
      · rintro acc _ ⟨rfl, _, t, rfl, ht, hr⟩
        refine ⟨hS, ?_⟩
        simp only [List.length_nil, Nat.add_zero] at ht
        exact fin_of (hR n t _ ⟨⟨n1, n2⟩, ht, hr⟩ (h7.mono (by omega)))
      · rintro k xs acc _ W hW2 ⟨rfl, hx, t, rfl, ht, hr⟩
        have hk := hx k List.mem_cons_self
        refine ⟨hS, ?_⟩
        try simp only [↓bK_bl, ↓lstK_lst, ↓intK_int, ↓optK_some, ↓tBool_, ↓dAndV_, ↓dOrV_, ↓dNotV_, ↓gI_, ↓gI0_, ↓gAdd_int, ↓gAdd_str, ↓gAdd_tup, ↓gAdd_ref, ↓gNeg_, ↓gIx_tup, ↓gIx_rl, ↓gIx_ref, ↓gIx_str, ↓atK_0, ↓atK_1, ↓atK_2, ↓atK_3, ↓atK_4, ↓atK_5, ↓atK_6, ↓atK_7, ↓atK_last, ↓setK_0, ↓setK_1, ↓setK_2, ↓setK_3, ↓gLen_str, ↓gLen_tup, ↓gLen_rl, ↓gLen_ref, ↓gTupleOf_tup, ↓gTupleOf_rl, ↓gTupleOf_ref, ↓seqK_tup, ↓seqK_rl, ↓seqK_ref, ↓nListOf_, ↓isLst_ref, ↓gAppend_, ↓gInsert_, ↓isStr_str, ↓strK_str, ↓gStrCount_, ↓dJoinN_, ↓gPopAt_, ↓nRange1_, ↓gPop_, ↓refK_ref, ↓dExtN_, ↓gExt_, ↓gSetIx_, ↓itK_some, ↓iRow_, ↓rowIt_tup, ↓rowIt_rl, ↓rowIt_str, ↓iRng1_, ↓iRng2_, ↓iZip_, ↓iEnum_, ↓gNil_, ↓gCons_, ↓gTup_, ↓gTup_ref, ↓gAbs_, ↓gMax2_, ↓gMin2_, ↓gInt_int, ↓gInt_bl, ↓gLe_int, ↓gIsN_non, ↓gIsN_tup, ↓gIsN_int, ↓gIsN_str, ↓gIsN_ref, ↓gIsN_bl, ↓isi_bool_bool, ↓isi_bool_int, ↓isi_int_int, ↓isi_int_bool, ↓isi_tuple_tup, ↓isi_int_tup, ↓isi_bool_tup, ↓isi_str_str, ↓isi_tuple_int, ↓isi_tuple_non, ↓gEq_int, ↓gNe_int, ↓gEq_bl, ↓gNe_bl, ↓gEq_str, ↓gNe_str, ↓gEq_int_non, ↓oNone_, ↓oSome_, ↓gCut_str, ↓gCut_tup, ↓gCut_ref, ↓gCut_rl, ↓rowK_rl, ↓rowK_ref, ↓nCut_, ↓nSorted_, ↓gSorted1_, ↓nRev_, ↓nCatEN_, ↓nRep_, ↓tupK_tup, ↓keysD_two, ↓dtK_dT, ↓gGetT_, ↓gPutT_, ↓nKeysT_, ↓gIsB_, ↓nRepE_, ↓dIxN_, ↓gSumN_, ↓gAllN_, ↓gAnyN_, ↓gAnyI_, ↓gMaxN_, ↓gMax1_rl, ↓gMax1_ref, ↓gMinN_, ↓gMin1_rl, ↓gMin1_ref, ↓gSum_rl, ↓gSum_ref, ↓dChain_, ↓sAug_, ↓gIndex_, ↓dVar_0, ↓dVar_1, ↓dVar_2, ↓dVar_3, ↓dVar_4, ↓dVar_5, ↓dVar_6, ↓dVar_7, ↓dVar_8, ↓dVar_9, ↓dVar_10, ↓dVar_11, ↓dVar_12, ↓dVar_13, ↓dVar_14, ↓dVar_15, ↓dVar_16, ↓dVar_17, ↓dVar_18, ↓dVar_19, ↓dVar_20, ↓dVar_21, ↓dVar_22, ↓dVar_23, ↓dVar_24, ↓dVar_25, ↓sz_0, ↓sz_1, ↓sz_2, ↓sz_3, ↓sz_4, ↓sz_5, ↓sz_6, ↓sz_7, ↓sz_8, ↓sz_9, ↓sz_10, ↓sz_11, ↓sz_12, ↓sz_13, ↓u_dNewT, ↓u_sPutT, ↓u_sSeq, ↓u_sNext, ↓u_sSet, ↓u_sSetN, ↓u_sAsg, ↓u_sIf, ↓u_sRet, ↓u_sRetN, ↓u_sDrop, ↓u_sPar, ↓u_sFor, ↓u_sBreak, ↓u_sCont, ↓u_dC, ↓u_d2, ↓u_d1, ↓u_dTup, ↓u_dNew, ↓u_aNil, ↓u_aCons, ↓u_nLst, ↓u_tAnd', ↓u_tOr', ↓u_tNot', ↓u_dIf, ↓u_gName', ↓u_dCall, ↓u_dB, ↓u_dLenN, ↓u_dTupN, ↓u_dM, ↓u_iNew, ↓u_nLc, ↓u_dN1, ↓u_dCut, ↓u_nCutN, ↓u_nCatNN, ↓u_d2N, ↓u_dNN, ↓u_tYes', ↓u_dS, List.set_cons_zero, List.set_cons_succ, dwipe, ite_true, ite_false, Bool.false_eq_true, Bool.true_eq_false, Bool.not_true, Bool.not_false, beq_self_eq_true, decide_eq_true_eq, Bool.not_eq_true', decide_eq_false_iff_not, mput_same, mput_put, dends, List.length_cons, List.length_nil, true_and, and_true, Nat.reduceAdd, Nat.reduceEqDiff, Int.reduceToNat, ↓x_tabLen, ↓x_fr0, ↓x_fr1, ↓x_kn0, ↓x_kn1, ↓x_map, ↓x_at0, ↓x_at1, ↓x_len, ↓x_row, ↓x_cut, ↓x_tup2, ↓x_tupfr, ↓x_isiT, ↓x_isiK, ↓x_isiF, ↓x_notN, ↓x_getT, ↓x_putT, ↓x_notNM]
        rw [rowIt_lst hS, itK_some]
        obtain ⟨r, hrok, hcell⟩ := cell k hk.1 hk.2
        refine lc_ind D.int (fun ys acc2 M => M3 = M ∧ (∀ z ∈ ys, 0 ≤ z ∧ z < (n : Int)) ∧ ∃ us : List Int, acc2 = us.map D.int ∧ us.length + ys.length = n ∧ ∀ z ∈ us, 0 ≤ z ∧ z ≤ 9) ?_ ?_ _ _ _ ⟨rfl, h4, [], rfl, by simpa using h1, by simp⟩
        · rintro acc2 _ ⟨rfl, _, us, rfl, hu, hz⟩
          refine ⟨hS, by rw [List.length_map]; simp at ht; omega, ?_⟩
          simp only [List.length_nil, Nat.add_zero] at hu
          refine hW2 _ _ ⟨rfl, fun z hz => hx z (List.mem_cons_of_mem _ hz), t ++ [us], by simp, by simp at ht ⊢; omega, ?_⟩
          intro r' hr'
          rcases List.mem_append.mp hr' with h | h
          · exact hr r' h
          · simp at h
            subst h
            exact ⟨hu, hz⟩
        · rintro j ys acc2 _ W2 hW3 ⟨rfl, hy, us, rfl, hu, hz⟩
          have hj := hy j List.mem_cons_self
          refine ⟨hS, ?_⟩
          simp only [h6.rwL, ↓bK_bl, ↓lstK_lst, ↓intK_int, ↓optK_some, ↓tBool_, ↓dAndV_, ↓dOrV_, ↓dNotV_, ↓gI_, ↓gI0_, ↓gAdd_int, ↓gAdd_str, ↓gAdd_tup, ↓gAdd_ref, ↓gNeg_, ↓gIx_tup, ↓gIx_rl, ↓gIx_ref, ↓gIx_str, ↓atK_0, ↓atK_1, ↓atK_2, ↓atK_3, ↓atK_4, ↓atK_5, ↓atK_6, ↓atK_7, ↓atK_last, ↓setK_0, ↓setK_1, ↓setK_2, ↓setK_3, ↓gLen_str, ↓gLen_tup, ↓gLen_rl, ↓gLen_ref, ↓gTupleOf_tup, ↓gTupleOf_rl, ↓gTupleOf_ref, ↓seqK_tup, ↓seqK_rl, ↓seqK_ref, ↓nListOf_, ↓isLst_ref, ↓gAppend_, ↓gInsert_, ↓isStr_str, ↓strK_str, ↓gStrCount_, ↓dJoinN_, ↓gPopAt_, ↓nRange1_, ↓gPop_, ↓refK_ref, ↓dExtN_, ↓gExt_, ↓gSetIx_, ↓itK_some, ↓iRow_, ↓rowIt_tup, ↓rowIt_rl, ↓rowIt_str, ↓iRng1_, ↓iRng2_, ↓iZip_, ↓iEnum_, ↓gNil_, ↓gCons_, ↓gTup_, ↓gTup_ref, ↓gAbs_, ↓gMax2_, ↓gMin2_, ↓gInt_int, ↓gInt_bl, ↓gLe_int, ↓gIsN_non, ↓gIsN_tup, ↓gIsN_int, ↓gIsN_str, ↓gIsN_ref, ↓gIsN_bl, ↓isi_bool_bool, ↓isi_bool_int, ↓isi_int_int, ↓isi_int_bool, ↓isi_tuple_tup, ↓isi_int_tup, ↓isi_bool_tup, ↓isi_str_str, ↓isi_tuple_int, ↓isi_tuple_non, ↓gEq_int, ↓gNe_int, ↓gEq_bl, ↓gNe_bl, ↓gEq_str, ↓gNe_str, ↓gEq_int_non, ↓oNone_, ↓oSome_, ↓gCut_str, ↓gCut_tup, ↓gCut_ref, ↓gCut_rl, ↓rowK_rl, ↓rowK_ref, ↓nCut_, ↓nSorted_, ↓gSorted1_, ↓nRev_, ↓nCatEN_, ↓nRep_, ↓tupK_tup, ↓keysD_two, ↓dtK_dT, ↓gGetT_, ↓gPutT_, ↓nKeysT_, ↓gIsB_, ↓nRepE_, ↓dIxN_, ↓gSumN_, ↓gAllN_, ↓gAnyN_, ↓gAnyI_, ↓gMaxN_, ↓gMax1_rl, ↓gMax1_ref, ↓gMinN_, ↓gMin1_rl, ↓gMin1_ref, ↓gSum_rl, ↓gSum_ref, ↓dChain_, ↓sAug_, ↓gIndex_, ↓dVar_0, ↓dVar_1, ↓dVar_2, ↓dVar_3, ↓dVar_4, ↓dVar_5, ↓dVar_6, ↓dVar_7, ↓dVar_8, ↓dVar_9, ↓dVar_10, ↓dVar_11, ↓dVar_12, ↓dVar_13, ↓dVar_14, ↓dVar_15, ↓dVar_16, ↓dVar_17, ↓dVar_18, ↓dVar_19, ↓dVar_20, ↓dVar_21, ↓dVar_22, ↓dVar_23, ↓dVar_24, ↓dVar_25, ↓sz_0, ↓sz_1, ↓sz_2, ↓sz_3, ↓sz_4, ↓sz_5, ↓sz_6, ↓sz_7, ↓sz_8, ↓sz_9, ↓sz_10, ↓sz_11, ↓sz_12, ↓sz_13, ↓u_dNewT, ↓u_sPutT, ↓u_sSeq, ↓u_sNext, ↓u_sSet, ↓u_sSetN, ↓u_sAsg, ↓u_sIf, ↓u_sRet, ↓u_sRetN, ↓u_sDrop, ↓u_sPar, ↓u_sFor, ↓u_sBreak, ↓u_sCont, ↓u_dC, ↓u_d2, ↓u_d1, ↓u_dTup, ↓u_dNew, ↓u_aNil, ↓u_aCons, ↓u_nLst, ↓u_tAnd', ↓u_tOr', ↓u_tNot', ↓u_dIf, ↓u_gName', ↓u_dCall, ↓u_dB, ↓u_dLenN, ↓u_dTupN, ↓u_dM, ↓u_iNew, ↓u_nLc, ↓u_dN1, ↓u_dCut, ↓u_nCutN, ↓u_nCatNN, ↓u_d2N, ↓u_dNN, ↓u_tYes', ↓u_dS, List.set_cons_zero, List.set_cons_succ, dwipe, ite_true, ite_false, Bool.false_eq_true, Bool.true_eq_false, Bool.not_true, Bool.not_false, beq_self_eq_true, decide_eq_true_eq, Bool.not_eq_true', decide_eq_false_iff_not, mput_same, mput_put, dends, List.length_cons, List.length_nil, true_and, and_true, Nat.reduceAdd, Nat.reduceEqDiff, Int.reduceToNat, ↓x_tabLen, ↓x_fr0, ↓x_fr1, ↓x_kn0, ↓x_kn1, ↓x_map, ↓x_at0, ↓x_at1, ↓x_len, ↓x_row, ↓x_cut, ↓x_tup2, ↓x_tupfr, ↓x_isiT, ↓x_isiK, ↓x_isiF, ↓x_notN, ↓x_getT, ↓x_putT, ↓x_notNM]
          refine hcell _ fun c hc => ?_
          simp only [hc, ↓bK_bl, ↓lstK_lst, ↓intK_int, ↓optK_some, ↓tBool_, ↓dAndV_, ↓dOrV_, ↓dNotV_, ↓gI_, ↓gI0_, ↓gAdd_int, ↓gAdd_str, ↓gAdd_tup, ↓gAdd_ref, ↓gNeg_, ↓gIx_tup, ↓gIx_rl, ↓gIx_ref, ↓gIx_str, ↓atK_0, ↓atK_1, ↓atK_2, ↓atK_3, ↓atK_4, ↓atK_5, ↓atK_6, ↓atK_7, ↓atK_last, ↓setK_0, ↓setK_1, ↓setK_2, ↓setK_3, ↓gLen_str, ↓gLen_tup, ↓gLen_rl, ↓gLen_ref, ↓gTupleOf_tup, ↓gTupleOf_rl, ↓gTupleOf_ref, ↓seqK_tup, ↓seqK_rl, ↓seqK_ref, ↓nListOf_, ↓isLst_ref, ↓gAppend_, ↓gInsert_, ↓isStr_str, ↓strK_str, ↓gStrCount_, ↓dJoinN_, ↓gPopAt_, ↓nRange1_, ↓gPop_, ↓refK_ref, ↓dExtN_, ↓gExt_, ↓gSetIx_, ↓itK_some, ↓iRow_, ↓rowIt_tup, ↓rowIt_rl, ↓rowIt_str, ↓iRng1_, ↓iRng2_, ↓iZip_, ↓iEnum_, ↓gNil_, ↓gCons_, ↓gTup_, ↓gTup_ref, ↓gAbs_, ↓gMax2_, ↓gMin2_, ↓gInt_int, ↓gInt_bl, ↓gLe_int, ↓gIsN_non, ↓gIsN_tup, ↓gIsN_int, ↓gIsN_str, ↓gIsN_ref, ↓gIsN_bl, ↓isi_bool_bool, ↓isi_bool_int, ↓isi_int_int, ↓isi_int_bool, ↓isi_tuple_tup, ↓isi_int_tup, ↓isi_bool_tup, ↓isi_str_str, ↓isi_tuple_int, ↓isi_tuple_non, ↓gEq_int, ↓gNe_int, ↓gEq_bl, ↓gNe_bl, ↓gEq_str, ↓gNe_str, ↓gEq_int_non, ↓oNone_, ↓oSome_, ↓gCut_str, ↓gCut_tup, ↓gCut_ref, ↓gCut_rl, ↓rowK_rl, ↓rowK_ref, ↓nCut_, ↓nSorted_, ↓gSorted1_, ↓nRev_, ↓nCatEN_, ↓nRep_, ↓tupK_tup, ↓keysD_two, ↓dtK_dT, ↓gGetT_, ↓gPutT_, ↓nKeysT_, ↓gIsB_, ↓nRepE_, ↓dIxN_, ↓gSumN_, ↓gAllN_, ↓gAnyN_, ↓gAnyI_, ↓gMaxN_, ↓gMax1_rl, ↓gMax1_ref, ↓gMinN_, ↓gMin1_rl, ↓gMin1_ref, ↓gSum_rl, ↓gSum_ref, ↓dChain_, ↓sAug_, ↓gIndex_, ↓dVar_0, ↓dVar_1, ↓dVar_2, ↓dVar_3, ↓dVar_4, ↓dVar_5, ↓dVar_6, ↓dVar_7, ↓dVar_8, ↓dVar_9, ↓dVar_10, ↓dVar_11, ↓dVar_12, ↓dVar_13, ↓dVar_14, ↓dVar_15, ↓dVar_16, ↓dVar_17, ↓dVar_18, ↓dVar_19, ↓dVar_20, ↓dVar_21, ↓dVar_22, ↓dVar_23, ↓dVar_24, ↓dVar_25, ↓sz_0, ↓sz_1, ↓sz_2, ↓sz_3, ↓sz_4, ↓sz_5, ↓sz_6, ↓sz_7, ↓sz_8, ↓sz_9, ↓sz_10, ↓sz_11, ↓sz_12, ↓sz_13, ↓u_dNewT, ↓u_sPutT, ↓u_sSeq, ↓u_sNext, ↓u_sSet, ↓u_sSetN, ↓u_sAsg, ↓u_sIf, ↓u_sRet, ↓u_sRetN, ↓u_sDrop, ↓u_sPar, ↓u_sFor, ↓u_sBreak, ↓u_sCont, ↓u_dC, ↓u_d2, ↓u_d1, ↓u_dTup, ↓u_dNew, ↓u_aNil, ↓u_aCons, ↓u_nLst, ↓u_tAnd', ↓u_tOr', ↓u_tNot', ↓u_dIf, ↓u_gName', ↓u_dCall, ↓u_dB, ↓u_dLenN, ↓u_dTupN, ↓u_dM, ↓u_iNew, ↓u_nLc, ↓u_dN1, ↓u_dCut, ↓u_nCutN, ↓u_nCatNN, ↓u_d2N, ↓u_dNN, ↓u_tYes', ↓u_dS, List.set_cons_zero, List.set_cons_succ, dwipe, ite_true, ite_false, Bool.false_eq_true, Bool.true_eq_false, Bool.not_true, Bool.not_false, beq_self_eq_true, decide_eq_true_eq, Bool.not_eq_true', decide_eq_false_iff_not, mput_same, mput_put, dends, List.length_cons, List.length_nil, true_and, and_true, Nat.reduceAdd, Nat.reduceEqDiff, Int.reduceToNat, ↓x_tabLen, ↓x_fr0, ↓x_fr1, ↓x_kn0, ↓x_kn1, ↓x_map, ↓x_at0, ↓x_at1, ↓x_len, ↓x_row, ↓x_cut, ↓x_tup2, ↓x_tupfr, ↓x_isiT, ↓x_isiK, ↓x_isiF, ↓x_notN, ↓x_getT, ↓x_putT, ↓x_notNM]
          refine at_ints hj.1 (by rw [hrok.1]; exact hj.2) fun w hw => ?_
          refine ⟨by rw [List.length_map]; simp at hu; omega, hW3 _ _ ⟨rfl, fun z hz => hy z (List.mem_cons_of_mem _ hz), us ++ [w], by simp, by simp at hu ⊢; omega, ?_⟩⟩
          intro z hz'
          rcases List.mem_append.mp hz' with h | h
          · exact hz z h
          · simp at h
            subst h
            exact hrok.2 _ hw
    · rintro x xs acc M2 W hW2 ⟨os, zs, rfl, h1, h2, h3, h4, h5, h6, h7⟩
      refine ⟨trivial, ?_⟩
      simp only [h5, ↓bK_bl, ↓lstK_lst, ↓intK_int, ↓optK_some, ↓tBool_, ↓dAndV_, ↓dOrV_, ↓dNotV_, ↓gI_, ↓gI0_, ↓gAdd_int, ↓gAdd_str, ↓gAdd_tup, ↓gAdd_ref, ↓gNeg_, ↓gIx_tup, ↓gIx_rl, ↓gIx_ref, ↓gIx_str, ↓atK_0, ↓atK_1, ↓atK_2, ↓atK_3, ↓atK_4, ↓atK_5, ↓atK_6, ↓atK_7, ↓atK_last, ↓setK_0, ↓setK_1, ↓setK_2, ↓setK_3, ↓gLen_str, ↓gLen_tup, ↓gLen_rl, ↓gLen_ref, ↓gTupleOf_tup, ↓gTupleOf_rl, ↓gTupleOf_ref, ↓seqK_tup, ↓seqK_rl, ↓seqK_ref, ↓nListOf_, ↓isLst_ref, ↓gAppend_, ↓gInsert_, ↓isStr_str, ↓strK_str, ↓gStrCount_, ↓dJoinN_, ↓gPopAt_, ↓nRange1_, ↓gPop_, ↓refK_ref, ↓dExtN_, ↓gExt_, ↓gSetIx_, ↓itK_some, ↓iRow_, ↓rowIt_tup, ↓rowIt_rl, ↓rowIt_str, ↓iRng1_, ↓iRng2_, ↓iZip_, ↓iEnum_, ↓gNil_, ↓gCons_, ↓gTup_, ↓gTup_ref, ↓gAbs_, ↓gMax2_, ↓gMin2_, ↓gInt_int, ↓gInt_bl, ↓gLe_int, ↓gIsN_non, ↓gIsN_tup, ↓gIsN_int, ↓gIsN_str, ↓gIsN_ref, ↓gIsN_bl, ↓isi_bool_bool, ↓isi_bool_int, ↓isi_int_int, ↓isi_int_bool, ↓isi_tuple_tup, ↓isi_int_tup, ↓isi_bool_tup, ↓isi_str_str, ↓isi_tuple_int, ↓isi_tuple_non, ↓gEq_int, ↓gNe_int, ↓gEq_bl, ↓gNe_bl, ↓gEq_str, ↓gNe_str, ↓gEq_int_non, ↓oNone_, ↓oSome_, ↓gCut_str, ↓gCut_tup, ↓gCut_ref, ↓gCut_rl, ↓rowK_rl, ↓rowK_ref, ↓nCut_, ↓nSorted_, ↓gSorted1_, ↓nRev_, ↓nCatEN_, ↓nRep_, ↓tupK_tup, ↓keysD_two, ↓dtK_dT, ↓gGetT_, ↓gPutT_, ↓nKeysT_, ↓gIsB_, ↓nRepE_, ↓dIxN_, ↓gSumN_, ↓gAllN_, ↓gAnyN_, ↓gAnyI_, ↓gMaxN_, ↓gMax1_rl, ↓gMax1_ref, ↓gMinN_, ↓gMin1_rl, ↓gMin1_ref, ↓gSum_rl, ↓gSum_ref, ↓dChain_, ↓sAug_, ↓gIndex_, ↓dVar_0, ↓dVar_1, ↓dVar_2, ↓dVar_3, ↓dVar_4, ↓dVar_5, ↓dVar_6, ↓dVar_7, ↓dVar_8, ↓dVar_9, ↓dVar_10, ↓dVar_11, ↓dVar_12, ↓dVar_13, ↓dVar_14, ↓dVar_15, ↓dVar_16, ↓dVar_17, ↓dVar_18, ↓dVar_19, ↓dVar_20, ↓dVar_21, ↓dVar_22, ↓dVar_23, ↓dVar_24, ↓dVar_25, ↓sz_0, ↓sz_1, ↓sz_2, ↓sz_3, ↓sz_4, ↓sz_5, ↓sz_6, ↓sz_7, ↓sz_8, ↓sz_9, ↓sz_10, ↓sz_11, ↓sz_12, ↓sz_13, ↓u_dNewT, ↓u_sPutT, ↓u_sSeq, ↓u_sNext, ↓u_sSet, ↓u_sSetN, ↓u_sAsg, ↓u_sIf, ↓u_sRet, ↓u_sRetN, ↓u_sDrop, ↓u_sPar, ↓u_sFor, ↓u_sBreak, ↓u_sCont, ↓u_dC, ↓u_d2, ↓u_d1, ↓u_dTup, ↓u_dNew, ↓u_aNil, ↓u_aCons, ↓u_nLst, ↓u_tAnd', ↓u_tOr', ↓u_tNot', ↓u_dIf, ↓u_gName', ↓u_dCall, ↓u_dB, ↓u_dLenN, ↓u_dTupN, ↓u_dM, ↓u_iNew, ↓u_nLc, ↓u_dN1, ↓u_dCut, ↓u_nCutN, ↓u_nCatNN, ↓u_d2N, ↓u_dNN, ↓u_tYes', ↓u_dS, List.set_cons_zero, List.set_cons_succ, dwipe, ite_true, ite_false, Bool.false_eq_true, Bool.true_eq_false, Bool.not_true, Bool.not_false, beq_self_eq_true, decide_eq_true_eq, Bool.not_eq_true', decide_eq_false_iff_not, mput_same, mput_put, dends, List.length_cons, List.length_nil, true_and, and_true, Nat.reduceAdd, Nat.reduceEqDiff, Int.reduceToNat, ↓x_tabLen, ↓x_fr0, ↓x_fr1, ↓x_kn0, ↓x_kn1, ↓x_map, ↓x_at0, ↓x_at1, ↓x_len, ↓x_row, ↓x_cut, ↓x_tup2, ↓x_tupfr, ↓x_isiT, ↓x_isiK, ↓x_isiF, ↓x_notN, ↓x_getT, ↓x_putT, ↓x_notNM]
      refine ⟨⟨_, rfl⟩, ?_⟩
      simp only [List.length_cons] at h1 h2
      refine ⟨a, b, _, _, rfl, h7, by omega, by rw [List.length_map]; omega, by rw [List.length_map]; omega, fun v M4 v0 v1 hT4 hE => ?_⟩
      have hO4 : M4 od = some (.lst (os.map D.int)) := by rw [hE od oda odb]; exact h5
      have hW4 := h6.eq2 hE
      simp only [hO4, ↓bK_bl, ↓lstK_lst, ↓intK_int, ↓optK_some, ↓tBool_, ↓dAndV_, ↓dOrV_, ↓dNotV_, ↓gI_, ↓gI0_, ↓gAdd_int, ↓gAdd_str, ↓gAdd_tup, ↓gAdd_ref, ↓gNeg_, ↓gIx_tup, ↓gIx_rl, ↓gIx_ref, ↓gIx_str, ↓atK_0, ↓atK_1, ↓atK_2, ↓atK_3, ↓atK_4, ↓atK_5, ↓atK_6, ↓atK_7, ↓atK_last, ↓setK_0, ↓setK_1, ↓setK_2, ↓setK_3, ↓gLen_str, ↓gLen_tup, ↓gLen_rl, ↓gLen_ref, ↓gTupleOf_tup, ↓gTupleOf_rl, ↓gTupleOf_ref, ↓seqK_tup, ↓seqK_rl, ↓seqK_ref, ↓nListOf_, ↓isLst_ref, ↓gAppend_, ↓gInsert_, ↓isStr_str, ↓strK_str, ↓gStrCount_, ↓dJoinN_, ↓gPopAt_, ↓nRange1_, ↓gPop_, ↓refK_ref, ↓dExtN_, ↓gExt_, ↓gSetIx_, ↓itK_some, ↓iRow_, ↓rowIt_tup, ↓rowIt_rl, ↓rowIt_str, ↓iRng1_, ↓iRng2_, ↓iZip_, ↓iEnum_, ↓gNil_, ↓gCons_, ↓gTup_, ↓gTup_ref, ↓gAbs_, ↓gMax2_, ↓gMin2_, ↓gInt_int, ↓gInt_bl, ↓gLe_int, ↓gIsN_non, ↓gIsN_tup, ↓gIsN_int, ↓gIsN_str, ↓gIsN_ref, ↓gIsN_bl, ↓isi_bool_bool, ↓isi_bool_int, ↓isi_int_int, ↓isi_int_bool, ↓isi_tuple_tup, ↓isi_int_tup, ↓isi_bool_tup, ↓isi_str_str, ↓isi_tuple_int, ↓isi_tuple_non, ↓gEq_int, ↓gNe_int, ↓gEq_bl, ↓gNe_bl, ↓gEq_str, ↓gNe_str, ↓gEq_int_non, ↓oNone_, ↓oSome_, ↓gCut_str, ↓gCut_tup, ↓gCut_ref, ↓gCut_rl, ↓rowK_rl, ↓rowK_ref, ↓nCut_, ↓nSorted_, ↓gSorted1_, ↓nRev_, ↓nCatEN_, ↓nRep_, ↓tupK_tup, ↓keysD_two, ↓dtK_dT, ↓gGetT_, ↓gPutT_, ↓nKeysT_, ↓gIsB_, ↓nRepE_, ↓dIxN_, ↓gSumN_, ↓gAllN_, ↓gAnyN_, ↓gAnyI_, ↓gMaxN_, ↓gMax1_rl, ↓gMax1_ref, ↓gMinN_, ↓gMin1_rl, ↓gMin1_ref, ↓gSum_rl, ↓gSum_ref, ↓dChain_, ↓sAug_, ↓gIndex_, ↓dVar_0, ↓dVar_1, ↓dVar_2, ↓dVar_3, ↓dVar_4, ↓dVar_5, ↓dVar_6, ↓dVar_7, ↓dVar_8, ↓dVar_9, ↓dVar_10, ↓dVar_11, ↓dVar_12, ↓dVar_13, ↓dVar_14, ↓dVar_15, ↓dVar_16, ↓dVar_17, ↓dVar_18, ↓dVar_19, ↓dVar_20, ↓dVar_21, ↓dVar_22, ↓dVar_23, ↓dVar_24, ↓dVar_25, ↓sz_0, ↓sz_1, ↓sz_2, ↓sz_3, ↓sz_4, ↓sz_5, ↓sz_6, ↓sz_7, ↓sz_8, ↓sz_9, ↓sz_10, ↓sz_11, ↓sz_12, ↓sz_13, ↓u_dNewT, ↓u_sPutT, ↓u_sSeq, ↓u_sNext, ↓u_sSet, ↓u_sSetN, ↓u_sAsg, ↓u_sIf, ↓u_sRet, ↓u_sRetN, ↓u_sDrop, ↓u_sPar, ↓u_sFor, ↓u_sBreak, ↓u_sCont, ↓u_dC, ↓u_d2, ↓u_d1, ↓u_dTup, ↓u_dNew, ↓u_aNil, ↓u_aCons, ↓u_nLst, ↓u_tAnd', ↓u_tOr', ↓u_tNot', ↓u_dIf, ↓u_gName', ↓u_dCall, ↓u_dB, ↓u_dLenN, ↓u_dTupN, ↓u_dM, ↓u_iNew, ↓u_nLc, ↓u_dN1, ↓u_dCut, ↓u_nCutN, ↓u_nCatNN, ↓u_d2N, ↓u_dNN, ↓u_tYes', ↓u_dS, List.set_cons_zero, List.set_cons_succ, dwipe, ite_true, ite_false, Bool.false_eq_true, Bool.true_eq_false, Bool.not_true, Bool.not_false, beq_self_eq_true, decide_eq_true_eq, Bool.not_eq_true', decide_eq_false_iff_not, mput_same, mput_put, dends, List.length_cons, List.length_nil, true_and, and_true, Nat.reduceAdd, Nat.reduceEqDiff, Int.reduceToNat, ↓x_tabLen, ↓x_fr0, ↓x_fr1, ↓x_kn0, ↓x_kn1, ↓x_map, ↓x_at0, ↓x_at1, ↓x_len, ↓x_row, ↓x_cut, ↓x_tup2, ↓x_tupfr, ↓x_isiT, ↓x_isiK, ↓x_isiF, ↓x_notN, ↓x_getT, ↓x_putT, ↓x_notNM]
      rw [List.length_map] at v1 ⊢
      refine ⟨⟨v0, by omega⟩, v1, fun y hy => ?_⟩
      have hvl : v.toNat < os.length := by omega
      have ey : y = .int os[v.toNat] := by
        rw [List.getElem?_map, List.getElem?_eq_getElem hvl] at hy
        simpa using hy.symm
      subst ey
      refine ⟨by rw [List.length_map]; omega, hW2 _ _ ⟨os.eraseIdx v.toNat, zs ++ [os[v.toNat]], by simp, by simp; omega, ?_, fun z hz => h3 z (List.mem_of_mem_eraseIdx hz), ?_, ?_, ?_, ?_⟩⟩
      · rw [List.length_eraseIdx_of_lt hvl]
        omega
      · intro z hz
        rcases List.mem_append.mp hz with h | h
        · exact h4 z h
        · simp at h
          subst h
          exact h3 _ (List.getElem_mem hvl)
      · rw [mput_same, map_erase]
      · exact hW4.put odw.1 odw.2
      · have := hT4.put (x := od) (o := .lst ((os.map D.int).eraseIdx v.toNat)) oda odb
        exact this.mono (by simp; omega)
    · obtain ⟨os, o1, o2, o3⟩ := hO
      exact ⟨os, [], rfl, by simp, by simpa using o2, o3, by simp, o1, hW, hT.mono (by simp)⟩
  have go : ∀ (n : Nat) (M : Mu), 1 ≤ n → n ≤ 12 → TDeck (N + 2) M a b → t_law_long_s1 (dends R) [some (.ref a), some (.int n), none, none, none, none, none] M := by
    intro n M n1 n2 hT
    simp only [t_law_long_s1, ↓bK_bl, ↓lstK_lst, ↓intK_int, ↓optK_some, ↓tBool_, ↓dAndV_, ↓dOrV_, ↓dNotV_, ↓gI_, ↓gI0_, ↓gAdd_int, ↓gAdd_str, ↓gAdd_tup, ↓gAdd_ref, ↓gNeg_, ↓gIx_tup, ↓gIx_rl, ↓gIx_ref, ↓gIx_str, ↓atK_0, ↓atK_1, ↓atK_2, ↓atK_3, ↓atK_4, ↓atK_5, ↓atK_6, ↓atK_7, ↓atK_last, ↓setK_0, ↓setK_1, ↓setK_2, ↓setK_3, ↓gLen_str, ↓gLen_tup, ↓gLen_rl, ↓gLen_ref, ↓gTupleOf_tup, ↓gTupleOf_rl, ↓gTupleOf_ref, ↓seqK_tup, ↓seqK_rl, ↓seqK_ref, ↓nListOf_, ↓isLst_ref, ↓gAppend_, ↓gInsert_, ↓isStr_str, ↓strK_str, ↓gStrCount_, ↓dJoinN_, ↓gPopAt_, ↓nRange1_, ↓gPop_, ↓refK_ref, ↓dExtN_, ↓gExt_, ↓gSetIx_, ↓itK_some, ↓iRow_, ↓rowIt_tup, ↓rowIt_rl, ↓rowIt_str, ↓iRng1_, ↓iRng2_, ↓iZip_, ↓iEnum_, ↓gNil_, ↓gCons_, ↓gTup_, ↓gTup_ref, ↓gAbs_, ↓gMax2_, ↓gMin2_, ↓gInt_int, ↓gInt_bl, ↓gLe_int, ↓gIsN_non, ↓gIsN_tup, ↓gIsN_int, ↓gIsN_str, ↓gIsN_ref, ↓gIsN_bl, ↓isi_bool_bool, ↓isi_bool_int, ↓isi_int_int, ↓isi_int_bool, ↓isi_tuple_tup, ↓isi_int_tup, ↓isi_bool_tup, ↓isi_str_str, ↓isi_tuple_int, ↓isi_tuple_non, ↓gEq_int, ↓gNe_int, ↓gEq_bl, ↓gNe_bl, ↓gEq_str, ↓gNe_str, ↓gEq_int_non, ↓oNone_, ↓oSome_, ↓gCut_str, ↓gCut_tup, ↓gCut_ref, ↓gCut_rl, ↓rowK_rl, ↓rowK_ref, ↓nCut_, ↓nSorted_, ↓gSorted1_, ↓nRev_, ↓nCatEN_, ↓nRep_, ↓tupK_tup, ↓keysD_two, ↓dtK_dT, ↓gGetT_, ↓gPutT_, ↓nKeysT_, ↓gIsB_, ↓nRepE_, ↓dIxN_, ↓gSumN_, ↓gAllN_, ↓gAnyN_, ↓gAnyI_, ↓gMaxN_, ↓gMax1_rl, ↓gMax1_ref, ↓gMinN_, ↓gMin1_rl, ↓gMin1_ref, ↓gSum_rl, ↓gSum_ref, ↓dChain_, ↓sAug_, ↓gIndex_, ↓dVar_0, ↓dVar_1, ↓dVar_2, ↓dVar_3, ↓dVar_4, ↓dVar_5, ↓dVar_6, ↓dVar_7, ↓dVar_8, ↓dVar_9, ↓dVar_10, ↓dVar_11, ↓dVar_12, ↓dVar_13, ↓dVar_14, ↓dVar_15, ↓dVar_16, ↓dVar_17, ↓dVar_18, ↓dVar_19, ↓dVar_20, ↓dVar_21, ↓dVar_22, ↓dVar_23, ↓dVar_24, ↓dVar_25, ↓sz_0, ↓sz_1, ↓sz_2, ↓sz_3, ↓sz_4, ↓sz_5, ↓sz_6, ↓sz_7, ↓sz_8, ↓sz_9, ↓sz_10, ↓sz_11, ↓sz_12, ↓sz_13, ↓u_dNewT, ↓u_sPutT, ↓u_sSeq, ↓u_sNext, ↓u_sSet, ↓u_sSetN, ↓u_sAsg, ↓u_sIf, ↓u_sRet, ↓u_sRetN, ↓u_sDrop, ↓u_sPar, ↓u_sFor, ↓u_sBreak, ↓u_sCont, ↓u_dC, ↓u_d2, ↓u_d1, ↓u_dTup, ↓u_dNew, ↓u_aNil, ↓u_aCons, ↓u_nLst, ↓u_tAnd', ↓u_tOr', ↓u_tNot', ↓u_dIf, ↓u_gName', ↓u_dCall, ↓u_dB, ↓u_dLenN, ↓u_dTupN, ↓u_dM, ↓u_iNew, ↓u_nLc, ↓u_dN1, ↓u_dCut, ↓u_nCutN, ↓u_nCatNN, ↓u_d2N, ↓u_dNN, ↓u_tYes', ↓u_dS, List.set_cons_zero, List.set_cons_succ, dwipe, ite_true, ite_false, Bool.false_eq_true, Bool.true_eq_false, Bool.not_true, Bool.not_false, beq_self_eq_true, decide_eq_true_eq, Bool.not_eq_true', decide_eq_false_iff_not, mput_same, mput_put, dends, List.length_cons, List.length_nil, true_and, and_true, Nat.reduceAdd, Nat.reduceEqDiff, Int.reduceToNat, ↓x_tabLen, ↓x_fr0, ↓x_fr1, ↓x_kn0, ↓x_kn1, ↓x_map, ↓x_at0, ↓x_at1, ↓x_len, ↓x_row, ↓x_cut, ↓x_tup2, ↓x_tupfr, ↓x_isiT, ↓x_isiK, ↓x_isiF, ↓x_notN, ↓x_getT, ↓x_putT, ↓x_notNM]
    refine ⟨by omega, ?_⟩
    rw [show ((n : Nat) : Int).toNat = n by omega, rng_map]
    refine lc_rowsF _ (List.range n) (fun k => (List.range n).map fun (j : Nat) => if (j : Int) = ((k : Int) + 1) % (n : Int) then 1 else 0) (fun _ _ => trivial) (by simp; omega) ?_ ?_
    · intro k hk M2 acc W hs hacc hW
      simp only [List.getElem_range]
      simp only [List.length_range] at hk
      try simp only [↓bK_bl, ↓lstK_lst, ↓intK_int, ↓optK_some, ↓tBool_, ↓dAndV_, ↓dOrV_, ↓dNotV_, ↓gI_, ↓gI0_, ↓gAdd_int, ↓gAdd_str, ↓gAdd_tup, ↓gAdd_ref, ↓gNeg_, ↓gIx_tup, ↓gIx_rl, ↓gIx_ref, ↓gIx_str, ↓atK_0, ↓atK_1, ↓atK_2, ↓atK_3, ↓atK_4, ↓atK_5, ↓atK_6, ↓atK_7, ↓atK_last, ↓setK_0, ↓setK_1, ↓setK_2, ↓setK_3, ↓gLen_str, ↓gLen_tup, ↓gLen_rl, ↓gLen_ref, ↓gTupleOf_tup, ↓gTupleOf_rl, ↓gTupleOf_ref, ↓seqK_tup, ↓seqK_rl, ↓seqK_ref, ↓nListOf_, ↓isLst_ref, ↓gAppend_, ↓gInsert_, ↓isStr_str, ↓strK_str, ↓gStrCount_, ↓dJoinN_, ↓gPopAt_, ↓nRange1_, ↓gPop_, ↓refK_ref, ↓dExtN_, ↓gExt_, ↓gSetIx_, ↓itK_some, ↓iRow_, ↓rowIt_tup, ↓rowIt_rl, ↓rowIt_str, ↓iRng1_, ↓iRng2_, ↓iZip_, ↓iEnum_, ↓gNil_, ↓gCons_, ↓gTup_, ↓gTup_ref, ↓gAbs_, ↓gMax2_, ↓gMin2_, ↓gInt_int, ↓gInt_bl, ↓gLe_int, ↓gIsN_non, ↓gIsN_tup, ↓gIsN_int, ↓gIsN_str, ↓gIsN_ref, ↓gIsN_bl, ↓isi_bool_bool, ↓isi_bool_int, ↓isi_int_int, ↓isi_int_bool, ↓isi_tuple_tup, ↓isi_int_tup, ↓isi_bool_tup, ↓isi_str_str, ↓isi_tuple_int, ↓isi_tuple_non, ↓gEq_int, ↓gNe_int, ↓gEq_bl, ↓gNe_bl, ↓gEq_str, ↓gNe_str, ↓gEq_int_non, ↓oNone_, ↓oSome_, ↓gCut_str, ↓gCut_tup, ↓gCut_ref, ↓gCut_rl, ↓rowK_rl, ↓rowK_ref, ↓nCut_, ↓nSorted_, ↓gSorted1_, ↓nRev_, ↓nCatEN_, ↓nRep_, ↓tupK_tup, ↓keysD_two, ↓dtK_dT, ↓gGetT_, ↓gPutT_, ↓nKeysT_, ↓gIsB_, ↓nRepE_, ↓dIxN_, ↓gSumN_, ↓gAllN_, ↓gAnyN_, ↓gAnyI_, ↓gMaxN_, ↓gMax1_rl, ↓gMax1_ref, ↓gMinN_, ↓gMin1_rl, ↓gMin1_ref, ↓gSum_rl, ↓gSum_ref, ↓dChain_, ↓sAug_, ↓gIndex_, ↓dVar_0, ↓dVar_1, ↓dVar_2, ↓dVar_3, ↓dVar_4, ↓dVar_5, ↓dVar_6, ↓dVar_7, ↓dVar_8, ↓dVar_9, ↓dVar_10, ↓dVar_11, ↓dVar_12, ↓dVar_13, ↓dVar_14, ↓dVar_15, ↓dVar_16, ↓dVar_17, ↓dVar_18, ↓dVar_19, ↓dVar_20, ↓dVar_21, ↓dVar_22, ↓dVar_23, ↓dVar_24, ↓dVar_25, ↓sz_0, ↓sz_1, ↓sz_2, ↓sz_3, ↓sz_4, ↓sz_5, ↓sz_6, ↓sz_7, ↓sz_8, ↓sz_9, ↓sz_10, ↓sz_11, ↓sz_12, ↓sz_13, ↓u_dNewT, ↓u_sPutT, ↓u_sSeq, ↓u_sNext, ↓u_sSet, ↓u_sSetN, ↓u_sAsg, ↓u_sIf, ↓u_sRet, ↓u_sRetN, ↓u_sDrop, ↓u_sPar, ↓u_sFor, ↓u_sBreak, ↓u_sCont, ↓u_dC, ↓u_d2, ↓u_d1, ↓u_dTup, ↓u_dNew, ↓u_aNil, ↓u_aCons, ↓u_nLst, ↓u_tAnd', ↓u_tOr', ↓u_tNot', ↓u_dIf, ↓u_gName', ↓u_dCall, ↓u_dB, ↓u_dLenN, ↓u_dTupN, ↓u_dM, ↓u_iNew, ↓u_nLc, ↓u_dN1, ↓u_dCut, ↓u_nCutN, ↓u_nCatNN, ↓u_d2N, ↓u_dNN, ↓u_tYes', ↓u_dS, List.set_cons_zero, List.set_cons_succ, dwipe, ite_true, ite_false, Bool.false_eq_true, Bool.true_eq_false, Bool.not_true, Bool.not_false, beq_self_eq_true, decide_eq_true_eq, Bool.not_eq_true', decide_eq_false_iff_not, mput_same, mput_put, dends, List.length_cons, List.length_nil, true_and, and_true, Nat.reduceAdd, Nat.reduceEqDiff, Int.reduceToNat, ↓x_tabLen, ↓x_fr0, ↓x_fr1, ↓x_kn0, ↓x_kn1, ↓x_map, ↓x_at0, ↓x_at1, ↓x_len, ↓x_row, ↓x_cut, ↓x_tup2, ↓x_tupfr, ↓x_isiT, ↓x_isiK, ↓x_isiF, ↓x_notN, ↓x_getT, ↓x_putT, ↓x_notNM]
      refine ⟨by omega, ?_⟩
      rw [show ((n : Nat) : Int).toNat = n by omega, rng_map]
      refine lc_ix _ (List.range n) (fun (j : Nat) => D.int (if (j : Int) = ((k : Int) + 1) % (n : Int) then 1 else 0)) trivial (by simp; omega) ?_ ?_
      · intro j hj acc2 W2 hacc2 hW2
        simp only [List.getElem_range]
        try simp only [↓bK_bl, ↓lstK_lst, ↓intK_int, ↓optK_some, ↓tBool_, ↓dAndV_, ↓dOrV_, ↓dNotV_, ↓gI_, ↓gI0_, ↓gAdd_int, ↓gAdd_str, ↓gAdd_tup, ↓gAdd_ref, ↓gNeg_, ↓gIx_tup, ↓gIx_rl, ↓gIx_ref, ↓gIx_str, ↓atK_0, ↓atK_1, ↓atK_2, ↓atK_3, ↓atK_4, ↓atK_5, ↓atK_6, ↓atK_7, ↓atK_last, ↓setK_0, ↓setK_1, ↓setK_2, ↓setK_3, ↓gLen_str, ↓gLen_tup, ↓gLen_rl, ↓gLen_ref, ↓gTupleOf_tup, ↓gTupleOf_rl, ↓gTupleOf_ref, ↓seqK_tup, ↓seqK_rl, ↓seqK_ref, ↓nListOf_, ↓isLst_ref, ↓gAppend_, ↓gInsert_, ↓isStr_str, ↓strK_str, ↓gStrCount_, ↓dJoinN_, ↓gPopAt_, ↓nRange1_, ↓gPop_, ↓refK_ref, ↓dExtN_, ↓gExt_, ↓gSetIx_, ↓itK_some, ↓iRow_, ↓rowIt_tup, ↓rowIt_rl, ↓rowIt_str, ↓iRng1_, ↓iRng2_, ↓iZip_, ↓iEnum_, ↓gNil_, ↓gCons_, ↓gTup_, ↓gTup_ref, ↓gAbs_, ↓gMax2_, ↓gMin2_, ↓gInt_int, ↓gInt_bl, ↓gLe_int, ↓gIsN_non, ↓gIsN_tup, ↓gIsN_int, ↓gIsN_str, ↓gIsN_ref, ↓gIsN_bl, ↓isi_bool_bool, ↓isi_bool_int, ↓isi_int_int, ↓isi_int_bool, ↓isi_tuple_tup, ↓isi_int_tup, ↓isi_bool_tup, ↓isi_str_str, ↓isi_tuple_int, ↓isi_tuple_non, ↓gEq_int, ↓gNe_int, ↓gEq_bl, ↓gNe_bl, ↓gEq_str, ↓gNe_str, ↓gEq_int_non, ↓oNone_, ↓oSome_, ↓gCut_str, ↓gCut_tup, ↓gCut_ref, ↓gCut_rl, ↓rowK_rl, ↓rowK_ref, ↓nCut_, ↓nSorted_, ↓gSorted1_, ↓nRev_, ↓nCatEN_, ↓nRep_, ↓tupK_tup, ↓keysD_two, ↓dtK_dT, ↓gGetT_, ↓gPutT_, ↓nKeysT_, ↓gIsB_, ↓nRepE_, ↓dIxN_, ↓gSumN_, ↓gAllN_, ↓gAnyN_, ↓gAnyI_, ↓gMaxN_, ↓gMax1_rl, ↓gMax1_ref, ↓gMinN_, ↓gMin1_rl, ↓gMin1_ref, ↓gSum_rl, ↓gSum_ref, ↓dChain_, ↓sAug_, ↓gIndex_, ↓dVar_0, ↓dVar_1, ↓dVar_2, ↓dVar_3, ↓dVar_4, ↓dVar_5, ↓dVar_6, ↓dVar_7, ↓dVar_8, ↓dVar_9, ↓dVar_10, ↓dVar_11, ↓dVar_12, ↓dVar_13, ↓dVar_14, ↓dVar_15, ↓dVar_16, ↓dVar_17, ↓dVar_18, ↓dVar_19, ↓dVar_20, ↓dVar_21, ↓dVar_22, ↓dVar_23, ↓dVar_24, ↓dVar_25, ↓sz_0, ↓sz_1, ↓sz_2, ↓sz_3, ↓sz_4, ↓sz_5, ↓sz_6, ↓sz_7, ↓sz_8, ↓sz_9, ↓sz_10, ↓sz_11, ↓sz_12, ↓sz_13, ↓u_dNewT, ↓u_sPutT, ↓u_sSeq, ↓u_sNext, ↓u_sSet, ↓u_sSetN, ↓u_sAsg, ↓u_sIf, ↓u_sRet, ↓u_sRetN, ↓u_sDrop, ↓u_sPar, ↓u_sFor, ↓u_sBreak, ↓u_sCont, ↓u_dC, ↓u_d2, ↓u_d1, ↓u_dTup, ↓u_dNew, ↓u_aNil, ↓u_aCons, ↓u_nLst, ↓u_tAnd', ↓u_tOr', ↓u_tNot', ↓u_dIf, ↓u_gName', ↓u_dCall, ↓u_dB, ↓u_dLenN, ↓u_dTupN, ↓u_dM, ↓u_iNew, ↓u_nLc, ↓u_dN1, ↓u_dCut, ↓u_nCutN, ↓u_nCatNN, ↓u_d2N, ↓u_dNN, ↓u_tYes', ↓u_dS, List.set_cons_zero, List.set_cons_succ, dwipe, ite_true, ite_false, Bool.false_eq_true, Bool.true_eq_false, Bool.not_true, Bool.not_false, beq_self_eq_true, decide_eq_true_eq, Bool.not_eq_true', decide_eq_false_iff_not, mput_same, mput_put, dends, List.length_cons, List.length_nil, true_and, and_true, Nat.reduceAdd, Nat.reduceEqDiff, Int.reduceToNat, ↓x_tabLen, ↓x_fr0, ↓x_fr1, ↓x_kn0, ↓x_kn1, ↓x_map, ↓x_at0, ↓x_at1, ↓x_len, ↓x_row, ↓x_cut, ↓x_tup2, ↓x_tupfr, ↓x_isiT, ↓x_isiK, ↓x_isiF, ↓x_notN, ↓x_getT, ↓x_putT, ↓x_notNM]
        exact ⟨by omega, hacc2, hW2⟩
      · intro c hc
        refine ⟨hacc, hW c _ (Sub.new hc) hc ?_⟩
        rw [mput_same, List.length_range, List.map_map]
        rfl
    · intro us M2 hs hul hus rw_ hrw
      rw [List.length_range] at hul
      have hW : Rwl a b rw_ n us (mput M2 rw_ (.lst (us.map D.ref))) := by
        refine ⟨hul, fun c hc => ?_, mput_same, ?_, ?_⟩
        · obtain ⟨i, hi, rfl⟩ := List.mem_iff_getElem.mp hc
          have h := hus i hi
          refine ⟨⟨hT.na h.1, hT.nb h.1, Ne.symm (Ne.symm (ne_of h.2 hrw))⟩, _, (Sub.new hrw) _ _ h.2, by simp, fun z hz => ?_⟩
          obtain ⟨j, hj, e⟩ := List.mem_map.mp hz
          split at e <;> omega
        · exact (hT.na (by
            cases e : M rw_ with
            | none => rfl
            | some o => rw [hs _ _ e] at hrw; cases hrw))
        · exact (hT.nb (by
            cases e : M rw_ with
            | none => rfl
            | some o => rw [hs _ _ e] at hrw; cases hrw))
      have hT : TDeck (N + 2) (mput M2 rw_ (.lst (us.map D.ref))) a b := by
        obtain ⟨cs, k, s, h1, h2, h3⟩ := hT
        exact ⟨cs, k, s, (Sub.new hrw) _ _ (hs _ _ h1), (Sub.new hrw) _ _ (hs _ _ h2), h3⟩
      generalize mput M2 rw_ (.lst (us.map D.ref)) = M3 at hW hT ⊢
      clear hus hs hrw hul
      simp only [t_law_long_s2, hW.rwL, ↓bK_bl, ↓lstK_lst, ↓intK_int, ↓optK_some, ↓tBool_, ↓dAndV_, ↓dOrV_, ↓dNotV_, ↓gI_, ↓gI0_, ↓gAdd_int, ↓gAdd_str, ↓gAdd_tup, ↓gAdd_ref, ↓gNeg_, ↓gIx_tup, ↓gIx_rl, ↓gIx_ref, ↓gIx_str, ↓atK_0, ↓atK_1, ↓atK_2, ↓atK_3, ↓atK_4, ↓atK_5, ↓atK_6, ↓atK_7, ↓atK_last, ↓setK_0, ↓setK_1, ↓setK_2, ↓setK_3, ↓gLen_str, ↓gLen_tup, ↓gLen_rl, ↓gLen_ref, ↓gTupleOf_tup, ↓gTupleOf_rl, ↓gTupleOf_ref, ↓seqK_tup, ↓seqK_rl, ↓seqK_ref, ↓nListOf_, ↓isLst_ref, ↓gAppend_, ↓gInsert_, ↓isStr_str, ↓strK_str, ↓gStrCount_, ↓dJoinN_, ↓gPopAt_, ↓nRange1_, ↓gPop_, ↓refK_ref, ↓dExtN_, ↓gExt_, ↓gSetIx_, ↓itK_some, ↓iRow_, ↓rowIt_tup, ↓rowIt_rl, ↓rowIt_str, ↓iRng1_, ↓iRng2_, ↓iZip_, ↓iEnum_, ↓gNil_, ↓gCons_, ↓gTup_, ↓gTup_ref, ↓gAbs_, ↓gMax2_, ↓gMin2_, ↓gInt_int, ↓gInt_bl, ↓gLe_int, ↓gIsN_non, ↓gIsN_tup, ↓gIsN_int, ↓gIsN_str, ↓gIsN_ref, ↓gIsN_bl, ↓isi_bool_bool, ↓isi_bool_int, ↓isi_int_int, ↓isi_int_bool, ↓isi_tuple_tup, ↓isi_int_tup, ↓isi_bool_tup, ↓isi_str_str, ↓isi_tuple_int, ↓isi_tuple_non, ↓gEq_int, ↓gNe_int, ↓gEq_bl, ↓gNe_bl, ↓gEq_str, ↓gNe_str, ↓gEq_int_non, ↓oNone_, ↓oSome_, ↓gCut_str, ↓gCut_tup, ↓gCut_ref, ↓gCut_rl, ↓rowK_rl, ↓rowK_ref, ↓nCut_, ↓nSorted_, ↓gSorted1_, ↓nRev_, ↓nCatEN_, ↓nRep_, ↓tupK_tup, ↓keysD_two, ↓dtK_dT, ↓gGetT_, ↓gPutT_, ↓nKeysT_, ↓gIsB_, ↓nRepE_, ↓dIxN_, ↓gSumN_, ↓gAllN_, ↓gAnyN_, ↓gAnyI_, ↓gMaxN_, ↓gMax1_rl, ↓gMax1_ref, ↓gMinN_, ↓gMin1_rl, ↓gMin1_ref, ↓gSum_rl, ↓gSum_ref, ↓dChain_, ↓sAug_, ↓gIndex_, ↓dVar_0, ↓dVar_1, ↓dVar_2, ↓dVar_3, ↓dVar_4, ↓dVar_5, ↓dVar_6, ↓dVar_7, ↓dVar_8, ↓dVar_9, ↓dVar_10, ↓dVar_11, ↓dVar_12, ↓dVar_13, ↓dVar_14, ↓dVar_15, ↓dVar_16, ↓dVar_17, ↓dVar_18, ↓dVar_19, ↓dVar_20, ↓dVar_21, ↓dVar_22, ↓dVar_23, ↓dVar_24, ↓dVar_25, ↓sz_0, ↓sz_1, ↓sz_2, ↓sz_3, ↓sz_4, ↓sz_5, ↓sz_6, ↓sz_7, ↓sz_8, ↓sz_9, ↓sz_10, ↓sz_11, ↓sz_12, ↓sz_13, ↓u_dNewT, ↓u_sPutT, ↓u_sSeq, ↓u_sNext, ↓u_sSet, ↓u_sSetN, ↓u_sAsg, ↓u_sIf, ↓u_sRet, ↓u_sRetN, ↓u_sDrop, ↓u_sPar, ↓u_sFor, ↓u_sBreak, ↓u_sCont, ↓u_dC, ↓u_d2, ↓u_d1, ↓u_dTup, ↓u_dNew, ↓u_aNil, ↓u_aCons, ↓u_nLst, ↓u_tAnd', ↓u_tOr', ↓u_tNot', ↓u_dIf, ↓u_gName', ↓u_dCall, ↓u_dB, ↓u_dLenN, ↓u_dTupN, ↓u_dM, ↓u_iNew, ↓u_nLc, ↓u_dN1, ↓u_dCut, ↓u_nCutN, ↓u_nCatNN, ↓u_d2N, ↓u_dNN, ↓u_tYes', ↓u_dS, List.set_cons_zero, List.set_cons_succ, dwipe, ite_true, ite_false, Bool.false_eq_true, Bool.true_eq_false, Bool.not_true, Bool.not_false, beq_self_eq_true, decide_eq_true_eq, Bool.not_eq_true', decide_eq_false_iff_not, mput_same, mput_put, dends, List.length_cons, List.length_nil, true_and, and_true, Nat.reduceAdd, Nat.reduceEqDiff, Int.reduceToNat, ↓x_tabLen, ↓x_fr0, ↓x_fr1, ↓x_kn0, ↓x_kn1, ↓x_map, ↓x_at0, ↓x_at1, ↓x_len, ↓x_row, ↓x_cut, ↓x_tup2, ↓x_tupfr, ↓x_isiT, ↓x_isiK, ↓x_isiF, ↓x_notN, ↓x_getT, ↓x_putT, ↓x_notNM]
      have hn1 : n - 1 < us.length := by rw [hW.len]; omega
      have hcm : us[n - 1] ∈ us := List.getElem_mem hn1
      obtain ⟨hc0, r, hr1, hr2⟩ := hW.row _ hcm
      refine atK_of (n := n - 1) (x := .ref us[n - 1]) (by omega) (by simp [hn1]) ?_
      refine ⟨by omega, ?_⟩
      simp only [hr1, ↓bK_bl, ↓lstK_lst, ↓intK_int, ↓optK_some, ↓tBool_, ↓dAndV_, ↓dOrV_, ↓dNotV_, ↓gI_, ↓gI0_, ↓gAdd_int, ↓gAdd_str, ↓gAdd_tup, ↓gAdd_ref, ↓gNeg_, ↓gIx_tup, ↓gIx_rl, ↓gIx_ref, ↓gIx_str, ↓atK_0, ↓atK_1, ↓atK_2, ↓atK_3, ↓atK_4, ↓atK_5, ↓atK_6, ↓atK_7, ↓atK_last, ↓setK_0, ↓setK_1, ↓setK_2, ↓setK_3, ↓gLen_str, ↓gLen_tup, ↓gLen_rl, ↓gLen_ref, ↓gTupleOf_tup, ↓gTupleOf_rl, ↓gTupleOf_ref, ↓seqK_tup, ↓seqK_rl, ↓seqK_ref, ↓nListOf_, ↓isLst_ref, ↓gAppend_, ↓gInsert_, ↓isStr_str, ↓strK_str, ↓gStrCount_, ↓dJoinN_, ↓gPopAt_, ↓nRange1_, ↓gPop_, ↓refK_ref, ↓dExtN_, ↓gExt_, ↓gSetIx_, ↓itK_some, ↓iRow_, ↓rowIt_tup, ↓rowIt_rl, ↓rowIt_str, ↓iRng1_, ↓iRng2_, ↓iZip_, ↓iEnum_, ↓gNil_, ↓gCons_, ↓gTup_, ↓gTup_ref, ↓gAbs_, ↓gMax2_, ↓gMin2_, ↓gInt_int, ↓gInt_bl, ↓gLe_int, ↓gIsN_non, ↓gIsN_tup, ↓gIsN_int, ↓gIsN_str, ↓gIsN_ref, ↓gIsN_bl, ↓isi_bool_bool, ↓isi_bool_int, ↓isi_int_int, ↓isi_int_bool, ↓isi_tuple_tup, ↓isi_int_tup, ↓isi_bool_tup, ↓isi_str_str, ↓isi_tuple_int, ↓isi_tuple_non, ↓gEq_int, ↓gNe_int, ↓gEq_bl, ↓gNe_bl, ↓gEq_str, ↓gNe_str, ↓gEq_int_non, ↓oNone_, ↓oSome_, ↓gCut_str, ↓gCut_tup, ↓gCut_ref, ↓gCut_rl, ↓rowK_rl, ↓rowK_ref, ↓nCut_, ↓nSorted_, ↓gSorted1_, ↓nRev_, ↓nCatEN_, ↓nRep_, ↓tupK_tup, ↓keysD_two, ↓dtK_dT, ↓gGetT_, ↓gPutT_, ↓nKeysT_, ↓gIsB_, ↓nRepE_, ↓dIxN_, ↓gSumN_, ↓gAllN_, ↓gAnyN_, ↓gAnyI_, ↓gMaxN_, ↓gMax1_rl, ↓gMax1_ref, ↓gMinN_, ↓gMin1_rl, ↓gMin1_ref, ↓gSum_rl, ↓gSum_ref, ↓dChain_, ↓sAug_, ↓gIndex_, ↓dVar_0, ↓dVar_1, ↓dVar_2, ↓dVar_3, ↓dVar_4, ↓dVar_5, ↓dVar_6, ↓dVar_7, ↓dVar_8, ↓dVar_9, ↓dVar_10, ↓dVar_11, ↓dVar_12, ↓dVar_13, ↓dVar_14, ↓dVar_15, ↓dVar_16, ↓dVar_17, ↓dVar_18, ↓dVar_19, ↓dVar_20, ↓dVar_21, ↓dVar_22, ↓dVar_23, ↓dVar_24, ↓dVar_25, ↓sz_0, ↓sz_1, ↓sz_2, ↓sz_3, ↓sz_4, ↓sz_5, ↓sz_6, ↓sz_7, ↓sz_8, ↓sz_9, ↓sz_10, ↓sz_11, ↓sz_12, ↓sz_13, ↓u_dNewT, ↓u_sPutT, ↓u_sSeq, ↓u_sNext, ↓u_sSet, ↓u_sSetN, ↓u_sAsg, ↓u_sIf, ↓u_sRet, ↓u_sRetN, ↓u_sDrop, ↓u_sPar, ↓u_sFor, ↓u_sBreak, ↓u_sCont, ↓u_dC, ↓u_d2, ↓u_d1, ↓u_dTup, ↓u_dNew, ↓u_aNil, ↓u_aCons, ↓u_nLst, ↓u_tAnd', ↓u_tOr', ↓u_tNot', ↓u_dIf, ↓u_gName', ↓u_dCall, ↓u_dB, ↓u_dLenN, ↓u_dTupN, ↓u_dM, ↓u_iNew, ↓u_nLc, ↓u_dN1, ↓u_dCut, ↓u_nCutN, ↓u_nCatNN, ↓u_d2N, ↓u_dNN, ↓u_tYes', ↓u_dS, List.set_cons_zero, List.set_cons_succ, dwipe, ite_true, ite_false, Bool.false_eq_true, Bool.true_eq_false, Bool.not_true, Bool.not_false, beq_self_eq_true, decide_eq_true_eq, Bool.not_eq_true', decide_eq_false_iff_not, mput_same, mput_put, dends, List.length_cons, List.length_nil, true_and, and_true, Nat.reduceAdd, Nat.reduceEqDiff, Int.reduceToNat, ↓x_tabLen, ↓x_fr0, ↓x_fr1, ↓x_kn0, ↓x_kn1, ↓x_map, ↓x_at0, ↓x_at1, ↓x_len, ↓x_row, ↓x_cut, ↓x_tup2, ↓x_tupfr, ↓x_isiT, ↓x_isiK, ↓x_isiF, ↓x_notN, ↓x_getT, ↓x_putT, ↓x_notNM]
      have e1 : (1 : Int) % (n : Int) = ((1 % n : Nat) : Int) := by simp
      have e2 : 1 % n < n := Nat.mod_lt _ (by omega)
      refine setK_of (n := 1 % n) (by omega) (by rw [List.length_map, hr2.1]; exact e2) ?_
      have es : (r.map D.int).set (1 % n) (.int 1) = (r.set (1 % n) 1).map D.int := by rw [List.map_set]
      rw [es]
      have hW := hW.inp hcm (r := r.set (1 % n) 1) ⟨by rw [List.length_set]; exact hr2.1, fun z hz => by
        rcases mem_set_cases hz with rfl | h
        · omega
        · exact hr2.2 z h⟩
      have hT := hT.put (x := us[n - 1]) (o := .lst ((r.set (1 % n) 1).map D.int)) hc0.1 hc0.2.1
      generalize mput M3 us[n - 1] (.lst ((r.set (1 % n) 1).map D.int)) = M4 at hW hT ⊢
      exact fromO n us rw_ M4 n1 n2 hW hT
  have pick : ∀ k : Int, (k = 8 ∨ k = 12) → sp_law_take [.ref a, .int k] m1 (fun x m1 => gAdd (D.int 1) x m1 fun x m1 => t_law_long_s1 (dends R) [some (.ref a), some x, none, none, none, none, none] m1) X0 := by
    intro k hk
    refine ⟨a, b, k, N + 1, rfl, hD1, by omega, by omega, by omega, fun w m2 w0 w1 hD2 _ => ?_⟩
    try simp only [↓bK_bl, ↓lstK_lst, ↓intK_int, ↓optK_some, ↓tBool_, ↓dAndV_, ↓dOrV_, ↓dNotV_, ↓gI_, ↓gI0_, ↓gAdd_int, ↓gAdd_str, ↓gAdd_tup, ↓gAdd_ref, ↓gNeg_, ↓gIx_tup, ↓gIx_rl, ↓gIx_ref, ↓gIx_str, ↓atK_0, ↓atK_1, ↓atK_2, ↓atK_3, ↓atK_4, ↓atK_5, ↓atK_6, ↓atK_7, ↓atK_last, ↓setK_0, ↓setK_1, ↓setK_2, ↓setK_3, ↓gLen_str, ↓gLen_tup, ↓gLen_rl, ↓gLen_ref, ↓gTupleOf_tup, ↓gTupleOf_rl, ↓gTupleOf_ref, ↓seqK_tup, ↓seqK_rl, ↓seqK_ref, ↓nListOf_, ↓isLst_ref, ↓gAppend_, ↓gInsert_, ↓isStr_str, ↓strK_str, ↓gStrCount_, ↓dJoinN_, ↓gPopAt_, ↓nRange1_, ↓gPop_, ↓refK_ref, ↓dExtN_, ↓gExt_, ↓gSetIx_, ↓itK_some, ↓iRow_, ↓rowIt_tup, ↓rowIt_rl, ↓rowIt_str, ↓iRng1_, ↓iRng2_, ↓iZip_, ↓iEnum_, ↓gNil_, ↓gCons_, ↓gTup_, ↓gTup_ref, ↓gAbs_, ↓gMax2_, ↓gMin2_, ↓gInt_int, ↓gInt_bl, ↓gLe_int, ↓gIsN_non, ↓gIsN_tup, ↓gIsN_int, ↓gIsN_str, ↓gIsN_ref, ↓gIsN_bl, ↓isi_bool_bool, ↓isi_bool_int, ↓isi_int_int, ↓isi_int_bool, ↓isi_tuple_tup, ↓isi_int_tup, ↓isi_bool_tup, ↓isi_str_str, ↓isi_tuple_int, ↓isi_tuple_non, ↓gEq_int, ↓gNe_int, ↓gEq_bl, ↓gNe_bl, ↓gEq_str, ↓gNe_str, ↓gEq_int_non, ↓oNone_, ↓oSome_, ↓gCut_str, ↓gCut_tup, ↓gCut_ref, ↓gCut_rl, ↓rowK_rl, ↓rowK_ref, ↓nCut_, ↓nSorted_, ↓gSorted1_, ↓nRev_, ↓nCatEN_, ↓nRep_, ↓tupK_tup, ↓keysD_two, ↓dtK_dT, ↓gGetT_, ↓gPutT_, ↓nKeysT_, ↓gIsB_, ↓nRepE_, ↓dIxN_, ↓gSumN_, ↓gAllN_, ↓gAnyN_, ↓gAnyI_, ↓gMaxN_, ↓gMax1_rl, ↓gMax1_ref, ↓gMinN_, ↓gMin1_rl, ↓gMin1_ref, ↓gSum_rl, ↓gSum_ref, ↓dChain_, ↓sAug_, ↓gIndex_, ↓dVar_0, ↓dVar_1, ↓dVar_2, ↓dVar_3, ↓dVar_4, ↓dVar_5, ↓dVar_6, ↓dVar_7, ↓dVar_8, ↓dVar_9, ↓dVar_10, ↓dVar_11, ↓dVar_12, ↓dVar_13, ↓dVar_14, ↓dVar_15, ↓dVar_16, ↓dVar_17, ↓dVar_18, ↓dVar_19, ↓dVar_20, ↓dVar_21, ↓dVar_22, ↓dVar_23, ↓dVar_24, ↓dVar_25, ↓sz_0, ↓sz_1, ↓sz_2, ↓sz_3, ↓sz_4, ↓sz_5, ↓sz_6, ↓sz_7, ↓sz_8, ↓sz_9, ↓sz_10, ↓sz_11, ↓sz_12, ↓sz_13, ↓u_dNewT, ↓u_sPutT, ↓u_sSeq, ↓u_sNext, ↓u_sSet, ↓u_sSetN, ↓u_sAsg, ↓u_sIf, ↓u_sRet, ↓u_sRetN, ↓u_sDrop, ↓u_sPar, ↓u_sFor, ↓u_sBreak, ↓u_sCont, ↓u_dC, ↓u_d2, ↓u_d1, ↓u_dTup, ↓u_dNew, ↓u_aNil, ↓u_aCons, ↓u_nLst, ↓u_tAnd', ↓u_tOr', ↓u_tNot', ↓u_dIf, ↓u_gName', ↓u_dCall, ↓u_dB, ↓u_dLenN, ↓u_dTupN, ↓u_dM, ↓u_iNew, ↓u_nLc, ↓u_dN1, ↓u_dCut, ↓u_nCutN, ↓u_nCatNN, ↓u_d2N, ↓u_dNN, ↓u_tYes', ↓u_dS, List.set_cons_zero, List.set_cons_succ, dwipe, ite_true, ite_false, Bool.false_eq_true, Bool.true_eq_false, Bool.not_true, Bool.not_false, beq_self_eq_true, decide_eq_true_eq, Bool.not_eq_true', decide_eq_false_iff_not, mput_same, mput_put, dends, List.length_cons, List.length_nil, true_and, and_true, Nat.reduceAdd, Nat.reduceEqDiff, Int.reduceToNat, ↓x_tabLen, ↓x_fr0, ↓x_fr1, ↓x_kn0, ↓x_kn1, ↓x_map, ↓x_at0, ↓x_at1, ↓x_len, ↓x_row, ↓x_cut, ↓x_tup2, ↓x_tupfr, ↓x_isiT, ↓x_isiK, ↓x_isiF, ↓x_notN, ↓x_getT, ↓x_putT, ↓x_notNM]
    obtain ⟨n, hn, n1, n2⟩ : ∃ n : Nat, 1 + w = (n : Int) ∧ 1 ≤ n ∧ n ≤ 12 := ⟨(1 + w).toNat, by omega, by omega, by omega⟩
    rw [hn]
    exact go n m2 n1 n2 hD2
  split
  · rw [atK_1]
    exact pick 12 (.inr rfl)
  · rw [atK_0]
    exact pick 8 (.inl rfl)

/-! ### law_due -/
def t_law_due_b5 : DTS :=
  (sDrop (dM gAppend (dVar 4) (aCons (dNew (nLc (iRng1' (dVar 1)) (gName' 7) tYes' (dB gInt (aCons (dGt (dN1 gSumN (nLc (iRng1' (dVar 1)) (gName' 6) tYes' (dMul (dIx (dVar 5) (dVar 6)) (dIx (dIx (dVar 0) (dVar 6)) (dVar 7))) [6])) (dC (.int 0))) aNil)) [7])) aNil)))
def t_law_due_s7 : DTS :=
  (sIf (tBool (dEq (dN1 gMinN (nLc (iRow (dVar 2)) (gName' 5) tYes' (dB gMin1 (aCons (dVar 5) aNil)) [5])) (dC (.int 1)))) (sRet (dVar 3)) sNext)
def t_law_due_s6 : DTS :=
  (sSeq (sSet 2 (dVar 4)) t_law_due_s7)
def t_law_due_s4 : DTS :=
  (sSeq (sFor (iRow (dVar 2)) (gName' 5) t_law_due_b5) t_law_due_s6)
def t_law_due_b3 : DTS :=
  (sSeq (sSetN 4 (nLst aNil)) t_law_due_s4)
def t_law_due_s8 : DTS :=
  (sRet (dC .non))
def t_law_due_s2 : DTS :=
  (sSeq (sFor (iRng2' (dC (.int 1)) (dC (.int 151))) (gName' 3) t_law_due_b3) t_law_due_s8)
def t_law_due_s1 : DTS :=
  (sSeq (sSetN 2 (nLc (iRng1' (dVar 1)) (gName' 6) tYes' (dNew (nLc (iRng1' (dVar 1)) (gName' 7) tYes' (dB gInt (aCons (dEq (dVar 7) (dVar 6)) aNil)) [7])) [6])) t_law_due_s2)
def t_law_due : DTS :=
  (sSeq (sSet 1 (dB gLen (aCons (dVar 0) aNil))) t_law_due_s1)
def sp_law_due : DSp := fun ds m R _ => ∃ (t : List (List Int)) (n : Nat), ds = [tabD t] ∧ Tab n t ∧ R (ansN (fstF n t 150)) m
theorem len_law_due : ∀ ds m R E, sp_law_due ds m R E → ds.length = (["table"] : List Str).length := by
  rintro ds m R E ⟨a, b, rfl, _⟩; rfl
theorem rd_law_due : ∀ ds m R E, sp_law_due ds m R E → t_law_due (dends R) (dstart 8 ds) m := by
  rintro ds m R E ⟨t, n, rfl, hT, hR⟩
  show t_law_due (dends R) [some (tabD t), none, none, none, none, none, none, none] m
  have hsl := sizeLine_eq
  have n12 := hT.n1
  have tl := hT.len
  simp only [t_law_due, x_tabLen, ↓bK_bl, ↓lstK_lst, ↓intK_int, ↓optK_some, ↓tBool_, ↓dAndV_, ↓dOrV_, ↓dNotV_, ↓gI_, ↓gI0_, ↓gAdd_int, ↓gAdd_str, ↓gAdd_tup, ↓gAdd_ref, ↓gNeg_, ↓gIx_tup, ↓gIx_rl, ↓gIx_ref, ↓gIx_str, ↓atK_0, ↓atK_1, ↓atK_2, ↓atK_3, ↓atK_4, ↓atK_5, ↓atK_6, ↓atK_7, ↓atK_last, ↓setK_0, ↓setK_1, ↓setK_2, ↓setK_3, ↓gLen_str, ↓gLen_tup, ↓gLen_rl, ↓gLen_ref, ↓gTupleOf_tup, ↓gTupleOf_rl, ↓gTupleOf_ref, ↓seqK_tup, ↓seqK_rl, ↓seqK_ref, ↓nListOf_, ↓isLst_ref, ↓gAppend_, ↓gInsert_, ↓isStr_str, ↓strK_str, ↓gStrCount_, ↓dJoinN_, ↓gPopAt_, ↓nRange1_, ↓gPop_, ↓refK_ref, ↓dExtN_, ↓gExt_, ↓gSetIx_, ↓itK_some, ↓iRow_, ↓rowIt_tup, ↓rowIt_rl, ↓rowIt_str, ↓iRng1_, ↓iRng2_, ↓iZip_, ↓iEnum_, ↓gNil_, ↓gCons_, ↓gTup_, ↓gTup_ref, ↓gAbs_, ↓gMax2_, ↓gMin2_, ↓gInt_int, ↓gInt_bl, ↓gLe_int, ↓gIsN_non, ↓gIsN_tup, ↓gIsN_int, ↓gIsN_str, ↓gIsN_ref, ↓gIsN_bl, ↓isi_bool_bool, ↓isi_bool_int, ↓isi_int_int, ↓isi_int_bool, ↓isi_tuple_tup, ↓isi_int_tup, ↓isi_bool_tup, ↓isi_str_str, ↓isi_tuple_int, ↓isi_tuple_non, ↓gEq_int, ↓gNe_int, ↓gEq_bl, ↓gNe_bl, ↓gEq_str, ↓gNe_str, ↓gEq_int_non, ↓oNone_, ↓oSome_, ↓gCut_str, ↓gCut_tup, ↓gCut_ref, ↓gCut_rl, ↓rowK_rl, ↓rowK_ref, ↓nCut_, ↓nSorted_, ↓gSorted1_, ↓nRev_, ↓nCatEN_, ↓nRep_, ↓tupK_tup, ↓keysD_two, ↓dtK_dT, ↓gGetT_, ↓gPutT_, ↓nKeysT_, ↓gIsB_, ↓nRepE_, ↓dIxN_, ↓gSumN_, ↓gAllN_, ↓gAnyN_, ↓gAnyI_, ↓gMaxN_, ↓gMax1_rl, ↓gMax1_ref, ↓gMinN_, ↓gMin1_rl, ↓gMin1_ref, ↓gSum_rl, ↓gSum_ref, ↓dChain_, ↓sAug_, ↓gIndex_, ↓dVar_0, ↓dVar_1, ↓dVar_2, ↓dVar_3, ↓dVar_4, ↓dVar_5, ↓dVar_6, ↓dVar_7, ↓dVar_8, ↓dVar_9, ↓dVar_10, ↓dVar_11, ↓dVar_12, ↓dVar_13, ↓dVar_14, ↓dVar_15, ↓dVar_16, ↓dVar_17, ↓dVar_18, ↓dVar_19, ↓dVar_20, ↓dVar_21, ↓dVar_22, ↓dVar_23, ↓dVar_24, ↓dVar_25, ↓sz_0, ↓sz_1, ↓sz_2, ↓sz_3, ↓sz_4, ↓sz_5, ↓sz_6, ↓sz_7, ↓sz_8, ↓sz_9, ↓sz_10, ↓sz_11, ↓sz_12, ↓sz_13, ↓u_dNewT, ↓u_sPutT, ↓u_sSeq, ↓u_sNext, ↓u_sSet, ↓u_sSetN, ↓u_sAsg, ↓u_sIf, ↓u_sRet, ↓u_sRetN, ↓u_sDrop, ↓u_sPar, ↓u_sFor, ↓u_sBreak, ↓u_sCont, ↓u_dC, ↓u_d2, ↓u_d1, ↓u_dTup, ↓u_dNew, ↓u_aNil, ↓u_aCons, ↓u_nLst, ↓u_tAnd', ↓u_tOr', ↓u_tNot', ↓u_dIf, ↓u_gName', ↓u_dCall, ↓u_dB, ↓u_dLenN, ↓u_dTupN, ↓u_dM, ↓u_iNew, ↓u_nLc, ↓u_dN1, ↓u_dCut, ↓u_nCutN, ↓u_nCatNN, ↓u_d2N, ↓u_dNN, ↓u_tYes', ↓u_dS, List.set_cons_zero, List.set_cons_succ, dwipe, ite_true, ite_false, Bool.false_eq_true, Bool.true_eq_false, Bool.not_true, Bool.not_false, beq_self_eq_true, decide_eq_true_eq, Bool.not_eq_true', decide_eq_false_iff_not, mput_same, mput_put, dends, List.length_cons, List.length_nil, true_and, and_true, Nat.reduceAdd, Nat.reduceEqDiff, Int.reduceToNat, ↓x_tabLen, ↓x_fr0, ↓x_fr1, ↓x_kn0, ↓x_kn1, ↓x_map, ↓x_at0, ↓x_at1, ↓x_len, ↓x_row, ↓x_cut, ↓x_tup2, ↓x_tupfr, ↓x_isiT, ↓x_isiK, ↓x_isiF, ↓x_notN, ↓x_getT, ↓x_putT, ↓x_notNM]
  rw [tl]
  simp only [t_law_due_s1, ↓bK_bl, ↓lstK_lst, ↓intK_int, ↓optK_some, ↓tBool_, ↓dAndV_, ↓dOrV_, ↓dNotV_, ↓gI_, ↓gI0_, ↓gAdd_int, ↓gAdd_str, ↓gAdd_tup, ↓gAdd_ref, ↓gNeg_, ↓gIx_tup, ↓gIx_rl, ↓gIx_ref, ↓gIx_str, ↓atK_0, ↓atK_1, ↓atK_2, ↓atK_3, ↓atK_4, ↓atK_5, ↓atK_6, ↓atK_7, ↓atK_last, ↓setK_0, ↓setK_1, ↓setK_2, ↓setK_3, ↓gLen_str, ↓gLen_tup, ↓gLen_rl, ↓gLen_ref, ↓gTupleOf_tup, ↓gTupleOf_rl, ↓gTupleOf_ref, ↓seqK_tup, ↓seqK_rl, ↓seqK_ref, ↓nListOf_, ↓isLst_ref, ↓gAppend_, ↓gInsert_, ↓isStr_str, ↓strK_str, ↓gStrCount_, ↓dJoinN_, ↓gPopAt_, ↓nRange1_, ↓gPop_, ↓refK_ref, ↓dExtN_, ↓gExt_, ↓gSetIx_, ↓itK_some, ↓iRow_, ↓rowIt_tup, ↓rowIt_rl, ↓rowIt_str, ↓iRng1_, ↓iRng2_, ↓iZip_, ↓iEnum_, ↓gNil_, ↓gCons_, ↓gTup_, ↓gTup_ref, ↓gAbs_, ↓gMax2_, ↓gMin2_, ↓gInt_int, ↓gInt_bl, ↓gLe_int, ↓gIsN_non, ↓gIsN_tup, ↓gIsN_int, ↓gIsN_str, ↓gIsN_ref, ↓gIsN_bl, ↓isi_bool_bool, ↓isi_bool_int, ↓isi_int_int, ↓isi_int_bool, ↓isi_tuple_tup, ↓isi_int_tup, ↓isi_bool_tup, ↓isi_str_str, ↓isi_tuple_int, ↓isi_tuple_non, ↓gEq_int, ↓gNe_int, ↓gEq_bl, ↓gNe_bl, ↓gEq_str, ↓gNe_str, ↓gEq_int_non, ↓oNone_, ↓oSome_, ↓gCut_str, ↓gCut_tup, ↓gCut_ref, ↓gCut_rl, ↓rowK_rl, ↓rowK_ref, ↓nCut_, ↓nSorted_, ↓gSorted1_, ↓nRev_, ↓nCatEN_, ↓nRep_, ↓tupK_tup, ↓keysD_two, ↓dtK_dT, ↓gGetT_, ↓gPutT_, ↓nKeysT_, ↓gIsB_, ↓nRepE_, ↓dIxN_, ↓gSumN_, ↓gAllN_, ↓gAnyN_, ↓gAnyI_, ↓gMaxN_, ↓gMax1_rl, ↓gMax1_ref, ↓gMinN_, ↓gMin1_rl, ↓gMin1_ref, ↓gSum_rl, ↓gSum_ref, ↓dChain_, ↓sAug_, ↓gIndex_, ↓dVar_0, ↓dVar_1, ↓dVar_2, ↓dVar_3, ↓dVar_4, ↓dVar_5, ↓dVar_6, ↓dVar_7, ↓dVar_8, ↓dVar_9, ↓dVar_10, ↓dVar_11, ↓dVar_12, ↓dVar_13, ↓dVar_14, ↓dVar_15, ↓dVar_16, ↓dVar_17, ↓dVar_18, ↓dVar_19, ↓dVar_20, ↓dVar_21, ↓dVar_22, ↓dVar_23, ↓dVar_24, ↓dVar_25, ↓sz_0, ↓sz_1, ↓sz_2, ↓sz_3, ↓sz_4, ↓sz_5, ↓sz_6, ↓sz_7, ↓sz_8, ↓sz_9, ↓sz_10, ↓sz_11, ↓sz_12, ↓sz_13, ↓u_dNewT, ↓u_sPutT, ↓u_sSeq, ↓u_sNext, ↓u_sSet, ↓u_sSetN, ↓u_sAsg, ↓u_sIf, ↓u_sRet, ↓u_sRetN, ↓u_sDrop, ↓u_sPar, ↓u_sFor, ↓u_sBreak, ↓u_sCont, ↓u_dC, ↓u_d2, ↓u_d1, ↓u_dTup, ↓u_dNew, ↓u_aNil, ↓u_aCons, ↓u_nLst, ↓u_tAnd', ↓u_tOr', ↓u_tNot', ↓u_dIf, ↓u_gName', ↓u_dCall, ↓u_dB, ↓u_dLenN, ↓u_dTupN, ↓u_dM, ↓u_iNew, ↓u_nLc, ↓u_dN1, ↓u_dCut, ↓u_nCutN, ↓u_nCatNN, ↓u_d2N, ↓u_dNN, ↓u_tYes', ↓u_dS, List.set_cons_zero, List.set_cons_succ, dwipe, ite_true, ite_false, Bool.false_eq_true, Bool.true_eq_false, Bool.not_true, Bool.not_false, beq_self_eq_true, decide_eq_true_eq, Bool.not_eq_true', decide_eq_false_iff_not, mput_same, mput_put, dends, List.length_cons, List.length_nil, true_and, and_true, Nat.reduceAdd, Nat.reduceEqDiff, Int.reduceToNat, ↓x_tabLen, ↓x_fr0, ↓x_fr1, ↓x_kn0, ↓x_kn1, ↓x_map, ↓x_at0, ↓x_at1, ↓x_len, ↓x_row, ↓x_cut, ↓x_tup2, ↓x_tupfr, ↓x_isiT, ↓x_isiK, ↓x_isiF, ↓x_notN, ↓x_getT, ↓x_putT, ↓x_notNM]
  refine ⟨by omega, ?_⟩
  rw [show ((n : Nat) : Int).toNat = n by omega, rng_map]
  refine lc_rows _ (List.range n) (fun i => (List.range n).map (wkB n t 0 i)) (fun _ _ => trivial) (by simp; omega) ?_ ?_
  · intro i hi M acc W hs hacc hW
    simp only [List.getElem_range]
    simp only [List.length_range] at hi
    try simp only [↓bK_bl, ↓lstK_lst, ↓intK_int, ↓optK_some, ↓tBool_, ↓dAndV_, ↓dOrV_, ↓dNotV_, ↓gI_, ↓gI0_, ↓gAdd_int, ↓gAdd_str, ↓gAdd_tup, ↓gAdd_ref, ↓gNeg_, ↓gIx_tup, ↓gIx_rl, ↓gIx_ref, ↓gIx_str, ↓atK_0, ↓atK_1, ↓atK_2, ↓atK_3, ↓atK_4, ↓atK_5, ↓atK_6, ↓atK_7, ↓atK_last, ↓setK_0, ↓setK_1, ↓setK_2, ↓setK_3, ↓gLen_str, ↓gLen_tup, ↓gLen_rl, ↓gLen_ref, ↓gTupleOf_tup, ↓gTupleOf_rl, ↓gTupleOf_ref, ↓seqK_tup, ↓seqK_rl, ↓seqK_ref, ↓nListOf_, ↓isLst_ref, ↓gAppend_, ↓gInsert_, ↓isStr_str, ↓strK_str, ↓gStrCount_, ↓dJoinN_, ↓gPopAt_, ↓nRange1_, ↓gPop_, ↓refK_ref, ↓dExtN_, ↓gExt_, ↓gSetIx_, ↓itK_some, ↓iRow_, ↓rowIt_tup, ↓rowIt_rl, ↓rowIt_str, ↓iRng1_, ↓iRng2_, ↓iZip_, ↓iEnum_, ↓gNil_, ↓gCons_, ↓gTup_, ↓gTup_ref, ↓gAbs_, ↓gMax2_, ↓gMin2_, ↓gInt_int, ↓gInt_bl, ↓gLe_int, ↓gIsN_non, ↓gIsN_tup, ↓gIsN_int, ↓gIsN_str, ↓gIsN_ref, ↓gIsN_bl, ↓isi_bool_bool, ↓isi_bool_int, ↓isi_int_int, ↓isi_int_bool, ↓isi_tuple_tup, ↓isi_int_tup, ↓isi_bool_tup, ↓isi_str_str, ↓isi_tuple_int, ↓isi_tuple_non, ↓gEq_int, ↓gNe_int, ↓gEq_bl, ↓gNe_bl, ↓gEq_str, ↓gNe_str, ↓gEq_int_non, ↓oNone_, ↓oSome_, ↓gCut_str, ↓gCut_tup, ↓gCut_ref, ↓gCut_rl, ↓rowK_rl, ↓rowK_ref, ↓nCut_, ↓nSorted_, ↓gSorted1_, ↓nRev_, ↓nCatEN_, ↓nRep_, ↓tupK_tup, ↓keysD_two, ↓dtK_dT, ↓gGetT_, ↓gPutT_, ↓nKeysT_, ↓gIsB_, ↓nRepE_, ↓dIxN_, ↓gSumN_, ↓gAllN_, ↓gAnyN_, ↓gAnyI_, ↓gMaxN_, ↓gMax1_rl, ↓gMax1_ref, ↓gMinN_, ↓gMin1_rl, ↓gMin1_ref, ↓gSum_rl, ↓gSum_ref, ↓dChain_, ↓sAug_, ↓gIndex_, ↓dVar_0, ↓dVar_1, ↓dVar_2, ↓dVar_3, ↓dVar_4, ↓dVar_5, ↓dVar_6, ↓dVar_7, ↓dVar_8, ↓dVar_9, ↓dVar_10, ↓dVar_11, ↓dVar_12, ↓dVar_13, ↓dVar_14, ↓dVar_15, ↓dVar_16, ↓dVar_17, ↓dVar_18, ↓dVar_19, ↓dVar_20, ↓dVar_21, ↓dVar_22, ↓dVar_23, ↓dVar_24, ↓dVar_25, ↓sz_0, ↓sz_1, ↓sz_2, ↓sz_3, ↓sz_4, ↓sz_5, ↓sz_6, ↓sz_7, ↓sz_8, ↓sz_9, ↓sz_10, ↓sz_11, ↓sz_12, ↓sz_13, ↓u_dNewT, ↓u_sPutT, ↓u_sSeq, ↓u_sNext, ↓u_sSet, ↓u_sSetN, ↓u_sAsg, ↓u_sIf, ↓u_sRet, ↓u_sRetN, ↓u_sDrop, ↓u_sPar, ↓u_sFor, ↓u_sBreak, ↓u_sCont, ↓u_dC, ↓u_d2, ↓u_d1, ↓u_dTup, ↓u_dNew, ↓u_aNil, ↓u_aCons, ↓u_nLst, ↓u_tAnd', ↓u_tOr', ↓u_tNot', ↓u_dIf, ↓u_gName', ↓u_dCall, ↓u_dB, ↓u_dLenN, ↓u_dTupN, ↓u_dM, ↓u_iNew, ↓u_nLc, ↓u_dN1, ↓u_dCut, ↓u_nCutN, ↓u_nCatNN, ↓u_d2N, ↓u_dNN, ↓u_tYes', ↓u_dS, List.set_cons_zero, List.set_cons_succ, dwipe, ite_true, ite_false, Bool.false_eq_true, Bool.true_eq_false, Bool.not_true, Bool.not_false, beq_self_eq_true, decide_eq_true_eq, Bool.not_eq_true', decide_eq_false_iff_not, mput_same, mput_put, dends, List.length_cons, List.length_nil, true_and, and_true, Nat.reduceAdd, Nat.reduceEqDiff, Int.reduceToNat, ↓x_tabLen, ↓x_fr0, ↓x_fr1, ↓x_kn0, ↓x_kn1, ↓x_map, ↓x_at0, ↓x_at1, ↓x_len, ↓x_row, ↓x_cut, ↓x_tup2, ↓x_tupfr, ↓x_isiT, ↓x_isiK, ↓x_isiF, ↓x_notN, ↓x_getT, ↓x_putT, ↓x_notNM]
    refine ⟨by omega, ?_⟩
    rw [show ((n : Nat) : Int).toNat = n by omega, rng_map]
    refine lc_ix _ (List.range n) (fun j => D.int (wkB n t 0 i j)) trivial (by simp; omega) ?_ ?_
    · intro j hj acc2 W2 hacc2 hW2
      simp only [List.getElem_range]
      try simp only [↓bK_bl, ↓lstK_lst, ↓intK_int, ↓optK_some, ↓tBool_, ↓dAndV_, ↓dOrV_, ↓dNotV_, ↓gI_, ↓gI0_, ↓gAdd_int, ↓gAdd_str, ↓gAdd_tup, ↓gAdd_ref, ↓gNeg_, ↓gIx_tup, ↓gIx_rl, ↓gIx_ref, ↓gIx_str, ↓atK_0, ↓atK_1, ↓atK_2, ↓atK_3, ↓atK_4, ↓atK_5, ↓atK_6, ↓atK_7, ↓atK_last, ↓setK_0, ↓setK_1, ↓setK_2, ↓setK_3, ↓gLen_str, ↓gLen_tup, ↓gLen_rl, ↓gLen_ref, ↓gTupleOf_tup, ↓gTupleOf_rl, ↓gTupleOf_ref, ↓seqK_tup, ↓seqK_rl, ↓seqK_ref, ↓nListOf_, ↓isLst_ref, ↓gAppend_, ↓gInsert_, ↓isStr_str, ↓strK_str, ↓gStrCount_, ↓dJoinN_, ↓gPopAt_, ↓nRange1_, ↓gPop_, ↓refK_ref, ↓dExtN_, ↓gExt_, ↓gSetIx_, ↓itK_some, ↓iRow_, ↓rowIt_tup, ↓rowIt_rl, ↓rowIt_str, ↓iRng1_, ↓iRng2_, ↓iZip_, ↓iEnum_, ↓gNil_, ↓gCons_, ↓gTup_, ↓gTup_ref, ↓gAbs_, ↓gMax2_, ↓gMin2_, ↓gInt_int, ↓gInt_bl, ↓gLe_int, ↓gIsN_non, ↓gIsN_tup, ↓gIsN_int, ↓gIsN_str, ↓gIsN_ref, ↓gIsN_bl, ↓isi_bool_bool, ↓isi_bool_int, ↓isi_int_int, ↓isi_int_bool, ↓isi_tuple_tup, ↓isi_int_tup, ↓isi_bool_tup, ↓isi_str_str, ↓isi_tuple_int, ↓isi_tuple_non, ↓gEq_int, ↓gNe_int, ↓gEq_bl, ↓gNe_bl, ↓gEq_str, ↓gNe_str, ↓gEq_int_non, ↓oNone_, ↓oSome_, ↓gCut_str, ↓gCut_tup, ↓gCut_ref, ↓gCut_rl, ↓rowK_rl, ↓rowK_ref, ↓nCut_, ↓nSorted_, ↓gSorted1_, ↓nRev_, ↓nCatEN_, ↓nRep_, ↓tupK_tup, ↓keysD_two, ↓dtK_dT, ↓gGetT_, ↓gPutT_, ↓nKeysT_, ↓gIsB_, ↓nRepE_, ↓dIxN_, ↓gSumN_, ↓gAllN_, ↓gAnyN_, ↓gAnyI_, ↓gMaxN_, ↓gMax1_rl, ↓gMax1_ref, ↓gMinN_, ↓gMin1_rl, ↓gMin1_ref, ↓gSum_rl, ↓gSum_ref, ↓dChain_, ↓sAug_, ↓gIndex_, ↓dVar_0, ↓dVar_1, ↓dVar_2, ↓dVar_3, ↓dVar_4, ↓dVar_5, ↓dVar_6, ↓dVar_7, ↓dVar_8, ↓dVar_9, ↓dVar_10, ↓dVar_11, ↓dVar_12, ↓dVar_13, ↓dVar_14, ↓dVar_15, ↓dVar_16, ↓dVar_17, ↓dVar_18, ↓dVar_19, ↓dVar_20, ↓dVar_21, ↓dVar_22, ↓dVar_23, ↓dVar_24, ↓dVar_25, ↓sz_0, ↓sz_1, ↓sz_2, ↓sz_3, ↓sz_4, ↓sz_5, ↓sz_6, ↓sz_7, ↓sz_8, ↓sz_9, ↓sz_10, ↓sz_11, ↓sz_12, ↓sz_13, ↓u_dNewT, ↓u_sPutT, ↓u_sSeq, ↓u_sNext, ↓u_sSet, ↓u_sSetN, ↓u_sAsg, ↓u_sIf, ↓u_sRet, ↓u_sRetN, ↓u_sDrop, ↓u_sPar, ↓u_sFor, ↓u_sBreak, ↓u_sCont, ↓u_dC, ↓u_d2, ↓u_d1, ↓u_dTup, ↓u_dNew, ↓u_aNil, ↓u_aCons, ↓u_nLst, ↓u_tAnd', ↓u_tOr', ↓u_tNot', ↓u_dIf, ↓u_gName', ↓u_dCall, ↓u_dB, ↓u_dLenN, ↓u_dTupN, ↓u_dM, ↓u_iNew, ↓u_nLc, ↓u_dN1, ↓u_dCut, ↓u_nCutN, ↓u_nCatNN, ↓u_d2N, ↓u_dNN, ↓u_tYes', ↓u_dS, List.set_cons_zero, List.set_cons_succ, dwipe, ite_true, ite_false, Bool.false_eq_true, Bool.true_eq_false, Bool.not_true, Bool.not_false, beq_self_eq_true, decide_eq_true_eq, Bool.not_eq_true', decide_eq_false_iff_not, mput_same, mput_put, dends, List.length_cons, List.length_nil, true_and, and_true, Nat.reduceAdd, Nat.reduceEqDiff, Int.reduceToNat, ↓x_tabLen, ↓x_fr0, ↓x_fr1, ↓x_kn0, ↓x_kn1, ↓x_map, ↓x_at0, ↓x_at1, ↓x_len, ↓x_row, ↓x_cut, ↓x_tup2, ↓x_tupfr, ↓x_isiT, ↓x_isiK, ↓x_isiF, ↓x_notN, ↓x_getT, ↓x_putT, ↓x_notNM]
      rw [wkB_zero] at hW2
      exact ⟨hacc2, hW2⟩
    · intro c hc
      refine ⟨hacc, hW c _ (Sub.new hc) ?_⟩
      rw [mput_same, List.length_range, List.map_map]
      rfl
  · intro us M hs hl hu f hf
    rw [List.length_range] at hl
    have hSq : Sq n (wkB n t 0) (mput M f (.lst (us.map D.ref))) f := ⟨us, mput_same, by omega, fun i hi => (Sub.new hf) _ _ (hu i hi)⟩
    have hs2 : Sub m (mput M f (.lst (us.map D.ref))) := hs.trans (Sub.new hf)
    generalize mput M f (.lst (us.map D.ref)) = M1 at hSq hs2 ⊢
    clear hu hl hs hf
    simp only [t_law_due_s2, ↓bK_bl, ↓lstK_lst, ↓intK_int, ↓optK_some, ↓tBool_, ↓dAndV_, ↓dOrV_, ↓dNotV_, ↓gI_, ↓gI0_, ↓gAdd_int, ↓gAdd_str, ↓gAdd_tup, ↓gAdd_ref, ↓gNeg_, ↓gIx_tup, ↓gIx_rl, ↓gIx_ref, ↓gIx_str, ↓atK_0, ↓atK_1, ↓atK_2, ↓atK_3, ↓atK_4, ↓atK_5, ↓atK_6, ↓atK_7, ↓atK_last, ↓setK_0, ↓setK_1, ↓setK_2, ↓setK_3, ↓gLen_str, ↓gLen_tup, ↓gLen_rl, ↓gLen_ref, ↓gTupleOf_tup, ↓gTupleOf_rl, ↓gTupleOf_ref, ↓seqK_tup, ↓seqK_rl, ↓seqK_ref, ↓nListOf_, ↓isLst_ref, ↓gAppend_, ↓gInsert_, ↓isStr_str, ↓strK_str, ↓gStrCount_, ↓dJoinN_, ↓gPopAt_, ↓nRange1_, ↓gPop_, ↓refK_ref, ↓dExtN_, ↓gExt_, ↓gSetIx_, ↓itK_some, ↓iRow_, ↓rowIt_tup, ↓rowIt_rl, ↓rowIt_str, ↓iRng1_, ↓iRng2_, ↓iZip_, ↓iEnum_, ↓gNil_, ↓gCons_, ↓gTup_, ↓gTup_ref, ↓gAbs_, ↓gMax2_, ↓gMin2_, ↓gInt_int, ↓gInt_bl, ↓gLe_int, ↓gIsN_non, ↓gIsN_tup, ↓gIsN_int, ↓gIsN_str, ↓gIsN_ref, ↓gIsN_bl, ↓isi_bool_bool, ↓isi_bool_int, ↓isi_int_int, ↓isi_int_bool, ↓isi_tuple_tup, ↓isi_int_tup, ↓isi_bool_tup, ↓isi_str_str, ↓isi_tuple_int, ↓isi_tuple_non, ↓gEq_int, ↓gNe_int, ↓gEq_bl, ↓gNe_bl, ↓gEq_str, ↓gNe_str, ↓gEq_int_non, ↓oNone_, ↓oSome_, ↓gCut_str, ↓gCut_tup, ↓gCut_ref, ↓gCut_rl, ↓rowK_rl, ↓rowK_ref, ↓nCut_, ↓nSorted_, ↓gSorted1_, ↓nRev_, ↓nCatEN_, ↓nRep_, ↓tupK_tup, ↓keysD_two, ↓dtK_dT, ↓gGetT_, ↓gPutT_, ↓nKeysT_, ↓gIsB_, ↓nRepE_, ↓dIxN_, ↓gSumN_, ↓gAllN_, ↓gAnyN_, ↓gAnyI_, ↓gMaxN_, ↓gMax1_rl, ↓gMax1_ref, ↓gMinN_, ↓gMin1_rl, ↓gMin1_ref, ↓gSum_rl, ↓gSum_ref, ↓dChain_, ↓sAug_, ↓gIndex_, ↓dVar_0, ↓dVar_1, ↓dVar_2, ↓dVar_3, ↓dVar_4, ↓dVar_5, ↓dVar_6, ↓dVar_7, ↓dVar_8, ↓dVar_9, ↓dVar_10, ↓dVar_11, ↓dVar_12, ↓dVar_13, ↓dVar_14, ↓dVar_15, ↓dVar_16, ↓dVar_17, ↓dVar_18, ↓dVar_19, ↓dVar_20, ↓dVar_21, ↓dVar_22, ↓dVar_23, ↓dVar_24, ↓dVar_25, ↓sz_0, ↓sz_1, ↓sz_2, ↓sz_3, ↓sz_4, ↓sz_5, ↓sz_6, ↓sz_7, ↓sz_8, ↓sz_9, ↓sz_10, ↓sz_11, ↓sz_12, ↓sz_13, ↓u_dNewT, ↓u_sPutT, ↓u_sSeq, ↓u_sNext, ↓u_sSet, ↓u_sSetN, ↓u_sAsg, ↓u_sIf, ↓u_sRet, ↓u_sRetN, ↓u_sDrop, ↓u_sPar, ↓u_sFor, ↓u_sBreak, ↓u_sCont, ↓u_dC, ↓u_d2, ↓u_d1, ↓u_dTup, ↓u_dNew, ↓u_aNil, ↓u_aCons, ↓u_nLst, ↓u_tAnd', ↓u_tOr', ↓u_tNot', ↓u_dIf, ↓u_gName', ↓u_dCall, ↓u_dB, ↓u_dLenN, ↓u_dTupN, ↓u_dM, ↓u_iNew, ↓u_nLc, ↓u_dN1, ↓u_dCut, ↓u_nCutN, ↓u_nCatNN, ↓u_d2N, ↓u_dNN, ↓u_tYes', ↓u_dS, List.set_cons_zero, List.set_cons_succ, dwipe, ite_true, ite_false, Bool.false_eq_true, Bool.true_eq_false, Bool.not_true, Bool.not_false, beq_self_eq_true, decide_eq_true_eq, Bool.not_eq_true', decide_eq_false_iff_not, mput_same, mput_put, dends, List.length_cons, List.length_nil, true_and, and_true, Nat.reduceAdd, Nat.reduceEqDiff, Int.reduceToNat, ↓x_tabLen, ↓x_fr0, ↓x_fr1, ↓x_kn0, ↓x_kn1, ↓x_map, ↓x_at0, ↓x_at1, ↓x_len, ↓x_row, ↓x_cut, ↓x_tup2, ↓x_tupfr, ↓x_isiT, ↓x_isiK, ↓x_isiF, ↓x_notN, ↓x_getT, ↓x_putT, ↓x_notNM]
    refine ⟨by decide, ?_⟩
    refine for_rng 1 150 (fun j r M => ∃ (g : Addr) (q3 q4 q5 : Option D), r = [some (tabD t), some (.int n), some (.ref g), q3, q4, q5, none, none] ∧ Sq n (wkB n t j) M g ∧ Sub m M ∧ ∀ k, k < j → ¬ FullW n (relT t) (k + 1)) ?_ ?_ _ _ ⟨f, _, _, _, rfl, hSq, hs2, fun k hk => by omega⟩
    · rintro r M ⟨g, q3, q4, q5, rfl, _, hs, hno⟩
      refine ⟨trivial, ?_⟩
      simp only [t_law_due_s8, ↓bK_bl, ↓lstK_lst, ↓intK_int, ↓optK_some, ↓tBool_, ↓dAndV_, ↓dOrV_, ↓dNotV_, ↓gI_, ↓gI0_, ↓gAdd_int, ↓gAdd_str, ↓gAdd_tup, ↓gAdd_ref, ↓gNeg_, ↓gIx_tup, ↓gIx_rl, ↓gIx_ref, ↓gIx_str, ↓atK_0, ↓atK_1, ↓atK_2, ↓atK_3, ↓atK_4, ↓atK_5, ↓atK_6, ↓atK_7, ↓atK_last, ↓setK_0, ↓setK_1, ↓setK_2, ↓setK_3, ↓gLen_str, ↓gLen_tup, ↓gLen_rl, ↓gLen_ref, ↓gTupleOf_tup, ↓gTupleOf_rl, ↓gTupleOf_ref, ↓seqK_tup, ↓seqK_rl, ↓seqK_ref, ↓nListOf_, ↓isLst_ref, ↓gAppend_, ↓gInsert_, ↓isStr_str, ↓strK_str, ↓gStrCount_, ↓dJoinN_, ↓gPopAt_, ↓nRange1_, ↓gPop_, ↓refK_ref, ↓dExtN_, ↓gExt_, ↓gSetIx_, ↓itK_some, ↓iRow_, ↓rowIt_tup, ↓rowIt_rl, ↓rowIt_str, ↓iRng1_, ↓iRng2_, ↓iZip_, ↓iEnum_, ↓gNil_, ↓gCons_, ↓gTup_, ↓gTup_ref, ↓gAbs_, ↓gMax2_, ↓gMin2_, ↓gInt_int, ↓gInt_bl, ↓gLe_int, ↓gIsN_non, ↓gIsN_tup, ↓gIsN_int, ↓gIsN_str, ↓gIsN_ref, ↓gIsN_bl, ↓isi_bool_bool, ↓isi_bool_int, ↓isi_int_int, ↓isi_int_bool, ↓isi_tuple_tup, ↓isi_int_tup, ↓isi_bool_tup, ↓isi_str_str, ↓isi_tuple_int, ↓isi_tuple_non, ↓gEq_int, ↓gNe_int, ↓gEq_bl, ↓gNe_bl, ↓gEq_str, ↓gNe_str, ↓gEq_int_non, ↓oNone_, ↓oSome_, ↓gCut_str, ↓gCut_tup, ↓gCut_ref, ↓gCut_rl, ↓rowK_rl, ↓rowK_ref, ↓nCut_, ↓nSorted_, ↓gSorted1_, ↓nRev_, ↓nCatEN_, ↓nRep_, ↓tupK_tup, ↓keysD_two, ↓dtK_dT, ↓gGetT_, ↓gPutT_, ↓nKeysT_, ↓gIsB_, ↓nRepE_, ↓dIxN_, ↓gSumN_, ↓gAllN_, ↓gAnyN_, ↓gAnyI_, ↓gMaxN_, ↓gMax1_rl, ↓gMax1_ref, ↓gMinN_, ↓gMin1_rl, ↓gMin1_ref, ↓gSum_rl, ↓gSum_ref, ↓dChain_, ↓sAug_, ↓gIndex_, ↓dVar_0, ↓dVar_1, ↓dVar_2, ↓dVar_3, ↓dVar_4, ↓dVar_5, ↓dVar_6, ↓dVar_7, ↓dVar_8, ↓dVar_9, ↓dVar_10, ↓dVar_11, ↓dVar_12, ↓dVar_13, ↓dVar_14, ↓dVar_15, ↓dVar_16, ↓dVar_17, ↓dVar_18, ↓dVar_19, ↓dVar_20, ↓dVar_21, ↓dVar_22, ↓dVar_23, ↓dVar_24, ↓dVar_25, ↓sz_0, ↓sz_1, ↓sz_2, ↓sz_3, ↓sz_4, ↓sz_5, ↓sz_6, ↓sz_7, ↓sz_8, ↓sz_9, ↓sz_10, ↓sz_11, ↓sz_12, ↓sz_13, ↓u_dNewT, ↓u_sPutT, ↓u_sSeq, ↓u_sNext, ↓u_sSet, ↓u_sSetN, ↓u_sAsg, ↓u_sIf, ↓u_sRet, ↓u_sRetN, ↓u_sDrop, ↓u_sPar, ↓u_sFor, ↓u_sBreak, ↓u_sCont, ↓u_dC, ↓u_d2, ↓u_d1, ↓u_dTup, ↓u_dNew, ↓u_aNil, ↓u_aCons, ↓u_nLst, ↓u_tAnd', ↓u_tOr', ↓u_tNot', ↓u_dIf, ↓u_gName', ↓u_dCall, ↓u_dB, ↓u_dLenN, ↓u_dTupN, ↓u_dM, ↓u_iNew, ↓u_nLc, ↓u_dN1, ↓u_dCut, ↓u_nCutN, ↓u_nCatNN, ↓u_d2N, ↓u_dNN, ↓u_tYes', ↓u_dS, List.set_cons_zero, List.set_cons_succ, dwipe, ite_true, ite_false, Bool.false_eq_true, Bool.true_eq_false, Bool.not_true, Bool.not_false, beq_self_eq_true, decide_eq_true_eq, Bool.not_eq_true', decide_eq_false_iff_not, mput_same, mput_put, dends, List.length_cons, List.length_nil, true_and, and_true, Nat.reduceAdd, Nat.reduceEqDiff, Int.reduceToNat, ↓x_tabLen, ↓x_fr0, ↓x_fr1, ↓x_kn0, ↓x_kn1, ↓x_map, ↓x_at0, ↓x_at1, ↓x_len, ↓x_row, ↓x_cut, ↓x_tup2, ↓x_tupfr, ↓x_isiT, ↓x_isiK, ↓x_isiF, ↓x_notN, ↓x_getT, ↓x_putT, ↓x_notNM]
      rw [fst_none hno] at hR
      exact ⟨m, hs, hR⟩
    · rintro j hj nx hnx r M ⟨g, q3, q4, q5, rfl, hG, hs, hno⟩
      refine ⟨trivial, ?_⟩
      simp only [t_law_due_b3, ↓bK_bl, ↓lstK_lst, ↓intK_int, ↓optK_some, ↓tBool_, ↓dAndV_, ↓dOrV_, ↓dNotV_, ↓gI_, ↓gI0_, ↓gAdd_int, ↓gAdd_str, ↓gAdd_tup, ↓gAdd_ref, ↓gNeg_, ↓gIx_tup, ↓gIx_rl, ↓gIx_ref, ↓gIx_str, ↓atK_0, ↓atK_1, ↓atK_2, ↓atK_3, ↓atK_4, ↓atK_5, ↓atK_6, ↓atK_7, ↓atK_last, ↓setK_0, ↓setK_1, ↓setK_2, ↓setK_3, ↓gLen_str, ↓gLen_tup, ↓gLen_rl, ↓gLen_ref, ↓gTupleOf_tup, ↓gTupleOf_rl, ↓gTupleOf_ref, ↓seqK_tup, ↓seqK_rl, ↓seqK_ref, ↓nListOf_, ↓isLst_ref, ↓gAppend_, ↓gInsert_, ↓isStr_str, ↓strK_str, ↓gStrCount_, ↓dJoinN_, ↓gPopAt_, ↓nRange1_, ↓gPop_, ↓refK_ref, ↓dExtN_, ↓gExt_, ↓gSetIx_, ↓itK_some, ↓iRow_, ↓rowIt_tup, ↓rowIt_rl, ↓rowIt_str, ↓iRng1_, ↓iRng2_, ↓iZip_, ↓iEnum_, ↓gNil_, ↓gCons_, ↓gTup_, ↓gTup_ref, ↓gAbs_, ↓gMax2_, ↓gMin2_, ↓gInt_int, ↓gInt_bl, ↓gLe_int, ↓gIsN_non, ↓gIsN_tup, ↓gIsN_int, ↓gIsN_str, ↓gIsN_ref, ↓gIsN_bl, ↓isi_bool_bool, ↓isi_bool_int, ↓isi_int_int, ↓isi_int_bool, ↓isi_tuple_tup, ↓isi_int_tup, ↓isi_bool_tup, ↓isi_str_str, ↓isi_tuple_int, ↓isi_tuple_non, ↓gEq_int, ↓gNe_int, ↓gEq_bl, ↓gNe_bl, ↓gEq_str, ↓gNe_str, ↓gEq_int_non, ↓oNone_, ↓oSome_, ↓gCut_str, ↓gCut_tup, ↓gCut_ref, ↓gCut_rl, ↓rowK_rl, ↓rowK_ref, ↓nCut_, ↓nSorted_, ↓gSorted1_, ↓nRev_, ↓nCatEN_, ↓nRep_, ↓tupK_tup, ↓keysD_two, ↓dtK_dT, ↓gGetT_, ↓gPutT_, ↓nKeysT_, ↓gIsB_, ↓nRepE_, ↓dIxN_, ↓gSumN_, ↓gAllN_, ↓gAnyN_, ↓gAnyI_, ↓gMaxN_, ↓gMax1_rl, ↓gMax1_ref, ↓gMinN_, ↓gMin1_rl, ↓gMin1_ref, ↓gSum_rl, ↓gSum_ref, ↓dChain_, ↓sAug_, ↓gIndex_, ↓dVar_0, ↓dVar_1, ↓dVar_2, ↓dVar_3, ↓dVar_4, ↓dVar_5, ↓dVar_6, ↓dVar_7, ↓dVar_8, ↓dVar_9, ↓dVar_10, ↓dVar_11, ↓dVar_12, ↓dVar_13, ↓dVar_14, ↓dVar_15, ↓dVar_16, ↓dVar_17, ↓dVar_18, ↓dVar_19, ↓dVar_20, ↓dVar_21, ↓dVar_22, ↓dVar_23, ↓dVar_24, ↓dVar_25, ↓sz_0, ↓sz_1, ↓sz_2, ↓sz_3, ↓sz_4, ↓sz_5, ↓sz_6, ↓sz_7, ↓sz_8, ↓sz_9, ↓sz_10, ↓sz_11, ↓sz_12, ↓sz_13, ↓u_dNewT, ↓u_sPutT, ↓u_sSeq, ↓u_sNext, ↓u_sSet, ↓u_sSetN, ↓u_sAsg, ↓u_sIf, ↓u_sRet, ↓u_sRetN, ↓u_sDrop, ↓u_sPar, ↓u_sFor, ↓u_sBreak, ↓u_sCont, ↓u_dC, ↓u_d2, ↓u_d1, ↓u_dTup, ↓u_dNew, ↓u_aNil, ↓u_aCons, ↓u_nLst, ↓u_tAnd', ↓u_tOr', ↓u_tNot', ↓u_dIf, ↓u_gName', ↓u_dCall, ↓u_dB, ↓u_dLenN, ↓u_dTupN, ↓u_dM, ↓u_iNew, ↓u_nLc, ↓u_dN1, ↓u_dCut, ↓u_nCutN, ↓u_nCatNN, ↓u_d2N, ↓u_dNN, ↓u_tYes', ↓u_dS, List.set_cons_zero, List.set_cons_succ, dwipe, ite_true, ite_false, Bool.false_eq_true, Bool.true_eq_false, Bool.not_true, Bool.not_false, beq_self_eq_true, decide_eq_true_eq, Bool.not_eq_true', decide_eq_false_iff_not, mput_same, mput_put, dends, List.length_cons, List.length_nil, true_and, and_true, Nat.reduceAdd, Nat.reduceEqDiff, Int.reduceToNat, ↓x_tabLen, ↓x_fr0, ↓x_fr1, ↓x_kn0, ↓x_kn1, ↓x_map, ↓x_at0, ↓x_at1, ↓x_len, ↓x_row, ↓x_cut, ↓x_tup2, ↓x_tupfr, ↓x_isiT, ↓x_isiK, ↓x_isiF, ↓x_notN, ↓x_getT, ↓x_putT, ↓x_notNM]
      intro d hd
      have hG1 := hG.sub (Sub.new (o := O.lst []) hd)
      have hs1 := hs.trans (Sub.new (o := O.lst []) hd)
      have hD : mput M d (O.lst []) d = some (.lst []) := mput_same
      have hdm : m d = none := by
        cases e : m d with
        | none => rfl
        | some o => rw [hs _ _ e] at hd; cases hd
      generalize mput M d (O.lst []) = M1 at hG1 hs1 hD ⊢
      clear hd hG
      obtain ⟨gs, g1, g2, g3⟩ := hG1
      have dg : d ≠ g := by
        intro e
        subst e
        rw [hD] at g1
        cases gs with
        | nil => simp at g2; omega
        | cons a l => simp at g1
      simp only [t_law_due_s4, ↓bK_bl, ↓lstK_lst, ↓intK_int, ↓optK_some, ↓tBool_, ↓dAndV_, ↓dOrV_, ↓dNotV_, ↓gI_, ↓gI0_, ↓gAdd_int, ↓gAdd_str, ↓gAdd_tup, ↓gAdd_ref, ↓gNeg_, ↓gIx_tup, ↓gIx_rl, ↓gIx_ref, ↓gIx_str, ↓atK_0, ↓atK_1, ↓atK_2, ↓atK_3, ↓atK_4, ↓atK_5, ↓atK_6, ↓atK_7, ↓atK_last, ↓setK_0, ↓setK_1, ↓setK_2, ↓setK_3, ↓gLen_str, ↓gLen_tup, ↓gLen_rl, ↓gLen_ref, ↓gTupleOf_tup, ↓gTupleOf_rl, ↓gTupleOf_ref, ↓seqK_tup, ↓seqK_rl, ↓seqK_ref, ↓nListOf_, ↓isLst_ref, ↓gAppend_, ↓gInsert_, ↓isStr_str, ↓strK_str, ↓gStrCount_, ↓dJoinN_, ↓gPopAt_, ↓nRange1_, ↓gPop_, ↓refK_ref, ↓dExtN_, ↓gExt_, ↓gSetIx_, ↓itK_some, ↓iRow_, ↓rowIt_tup, ↓rowIt_rl, ↓rowIt_str, ↓iRng1_, ↓iRng2_, ↓iZip_, ↓iEnum_, ↓gNil_, ↓gCons_, ↓gTup_, ↓gTup_ref, ↓gAbs_, ↓gMax2_, ↓gMin2_, ↓gInt_int, ↓gInt_bl, ↓gLe_int, ↓gIsN_non, ↓gIsN_tup, ↓gIsN_int, ↓gIsN_str, ↓gIsN_ref, ↓gIsN_bl, ↓isi_bool_bool, ↓isi_bool_int, ↓isi_int_int, ↓isi_int_bool, ↓isi_tuple_tup, ↓isi_int_tup, ↓isi_bool_tup, ↓isi_str_str, ↓isi_tuple_int, ↓isi_tuple_non, ↓gEq_int, ↓gNe_int, ↓gEq_bl, ↓gNe_bl, ↓gEq_str, ↓gNe_str, ↓gEq_int_non, ↓oNone_, ↓oSome_, ↓gCut_str, ↓gCut_tup, ↓gCut_ref, ↓gCut_rl, ↓rowK_rl, ↓rowK_ref, ↓nCut_, ↓nSorted_, ↓gSorted1_, ↓nRev_, ↓nCatEN_, ↓nRep_, ↓tupK_tup, ↓keysD_two, ↓dtK_dT, ↓gGetT_, ↓gPutT_, ↓nKeysT_, ↓gIsB_, ↓nRepE_, ↓dIxN_, ↓gSumN_, ↓gAllN_, ↓gAnyN_, ↓gAnyI_, ↓gMaxN_, ↓gMax1_rl, ↓gMax1_ref, ↓gMinN_, ↓gMin1_rl, ↓gMin1_ref, ↓gSum_rl, ↓gSum_ref, ↓dChain_, ↓sAug_, ↓gIndex_, ↓dVar_0, ↓dVar_1, ↓dVar_2, ↓dVar_3, ↓dVar_4, ↓dVar_5, ↓dVar_6, ↓dVar_7, ↓dVar_8, ↓dVar_9, ↓dVar_10, ↓dVar_11, ↓dVar_12, ↓dVar_13, ↓dVar_14, ↓dVar_15, ↓dVar_16, ↓dVar_17, ↓dVar_18, ↓dVar_19, ↓dVar_20, ↓dVar_21, ↓dVar_22, ↓dVar_23, ↓dVar_24, ↓dVar_25, ↓sz_0, ↓sz_1, ↓sz_2, ↓sz_3, ↓sz_4, ↓sz_5, ↓sz_6, ↓sz_7, ↓sz_8, ↓sz_9, ↓sz_10, ↓sz_11, ↓sz_12, ↓sz_13, ↓u_dNewT, ↓u_sPutT, ↓u_sSeq, ↓u_sNext, ↓u_sSet, ↓u_sSetN, ↓u_sAsg, ↓u_sIf, ↓u_sRet, ↓u_sRetN, ↓u_sDrop, ↓u_sPar, ↓u_sFor, ↓u_sBreak, ↓u_sCont, ↓u_dC, ↓u_d2, ↓u_d1, ↓u_dTup, ↓u_dNew, ↓u_aNil, ↓u_aCons, ↓u_nLst, ↓u_tAnd', ↓u_tOr', ↓u_tNot', ↓u_dIf, ↓u_gName', ↓u_dCall, ↓u_dB, ↓u_dLenN, ↓u_dTupN, ↓u_dM, ↓u_iNew, ↓u_nLc, ↓u_dN1, ↓u_dCut, ↓u_nCutN, ↓u_nCatNN, ↓u_d2N, ↓u_dNN, ↓u_tYes', ↓u_dS, List.set_cons_zero, List.set_cons_succ, dwipe, ite_true, ite_false, Bool.false_eq_true, Bool.true_eq_false, Bool.not_true, Bool.not_false, beq_self_eq_true, decide_eq_true_eq, Bool.not_eq_true', decide_eq_false_iff_not, mput_same, mput_put, dends, List.length_cons, List.length_nil, true_and, and_true, Nat.reduceAdd, Nat.reduceEqDiff, Int.reduceToNat, ↓x_tabLen, ↓x_fr0, ↓x_fr1, ↓x_kn0, ↓x_kn1, ↓x_map, ↓x_at0, ↓x_at1, ↓x_len, ↓x_row, ↓x_cut, ↓x_tup2, ↓x_tupfr, ↓x_isiT, ↓x_isiK, ↓x_isiF, ↓x_notN, ↓x_getT, ↓x_putT, ↓x_notNM]
      rw [rowIt_lst g1, itK_some]
      have gd : ∀ (i : Nat) (hi : i < gs.length), gs[i] ≠ d := by
        intro i hi e
        have := g3 i hi
        rw [e, hD] at this
        have h0 : ((List.range n).map (wkB n t j i)).length = 0 := by
          have h1 : O.lst [] = O.lst (((List.range n).map (wkB n t j i)).map D.int) := Option.some.inj this
          injection h1 with h1
          have := congrArg List.length h1
          simpa using this.symm
        simp at h0
        omega
      refine for_ind D.ref (fun xs r M => ∃ (us : List Addr) (q5 : Option D), r = [some (tabD t), some (.int n), some (.ref g), some (.int (1 + j)), some (.ref d), q5, none, none] ∧ xs = gs.drop us.length ∧ us.length ≤ n ∧ (∀ x o, x ≠ d → M1 x = some o → M x = some o) ∧ M d = some (.lst (us.map D.ref)) ∧ ∀ (i : Nat) (hi : i < us.length), us[i] ≠ d ∧ M us[i] = some (.lst (((List.range n).map (wkB n t (j + 1) i)).map D.int))) ?_ ?_ _ _ _ ⟨[], _, rfl, by simp, by simp, fun x o _ h => h, hD, fun i hi => by simp at hi⟩
      · rintro r M2 ⟨us, q5, rfl, hx, hul, hk, hd2, hu⟩
        have hun : us.length = n := by
          have := congrArg List.length hx
          simp at this
          omega
        refine ⟨hk _ _ (Ne.symm dg) g1, ?_⟩
        have hs2 : Sub m M2 := by
          intro x o h
          have hxd : x ≠ d := by
            intro e
            subst e
            rw [hdm] at h
            cases h
          exact hk x o hxd (hs1 x o h)
        have hSq2 : Sq n (wkB n t (j + 1)) M2 d := ⟨us, hd2, hun, fun i hi => (hu i hi).2⟩
        simp only [t_law_due_s6, t_law_due_s7, ↓bK_bl, ↓lstK_lst, ↓intK_int, ↓optK_some, ↓tBool_, ↓dAndV_, ↓dOrV_, ↓dNotV_, ↓gI_, ↓gI0_, ↓gAdd_int, ↓gAdd_str, ↓gAdd_tup, ↓gAdd_ref, ↓gNeg_, ↓gIx_tup, ↓gIx_rl, ↓gIx_ref, ↓gIx_str, ↓atK_0, ↓atK_1, ↓atK_2, ↓atK_3, ↓atK_4, ↓atK_5, ↓atK_6, ↓atK_7, ↓atK_last, ↓setK_0, ↓setK_1, ↓setK_2, ↓setK_3, ↓gLen_str, ↓gLen_tup, ↓gLen_rl, ↓gLen_ref, ↓gTupleOf_tup, ↓gTupleOf_rl, ↓gTupleOf_ref, ↓seqK_tup, ↓seqK_rl, ↓seqK_ref, ↓nListOf_, ↓isLst_ref, ↓gAppend_, ↓gInsert_, ↓isStr_str, ↓strK_str, ↓gStrCount_, ↓dJoinN_, ↓gPopAt_, ↓nRange1_, ↓gPop_, ↓refK_ref, ↓dExtN_, ↓gExt_, ↓gSetIx_, ↓itK_some, ↓iRow_, ↓rowIt_tup, ↓rowIt_rl, ↓rowIt_str, ↓iRng1_, ↓iRng2_, ↓iZip_, ↓iEnum_, ↓gNil_, ↓gCons_, ↓gTup_, ↓gTup_ref, ↓gAbs_, ↓gMax2_, ↓gMin2_, ↓gInt_int, ↓gInt_bl, ↓gLe_int, ↓gIsN_non, ↓gIsN_tup, ↓gIsN_int, ↓gIsN_str, ↓gIsN_ref, ↓gIsN_bl, ↓isi_bool_bool, ↓isi_bool_int, ↓isi_int_int, ↓isi_int_bool, ↓isi_tuple_tup, ↓isi_int_tup, ↓isi_bool_tup, ↓isi_str_str, ↓isi_tuple_int, ↓isi_tuple_non, ↓gEq_int, ↓gNe_int, ↓gEq_bl, ↓gNe_bl, ↓gEq_str, ↓gNe_str, ↓gEq_int_non, ↓oNone_, ↓oSome_, ↓gCut_str, ↓gCut_tup, ↓gCut_ref, ↓gCut_rl, ↓rowK_rl, ↓rowK_ref, ↓nCut_, ↓nSorted_, ↓gSorted1_, ↓nRev_, ↓nCatEN_, ↓nRep_, ↓tupK_tup, ↓keysD_two, ↓dtK_dT, ↓gGetT_, ↓gPutT_, ↓nKeysT_, ↓gIsB_, ↓nRepE_, ↓dIxN_, ↓gSumN_, ↓gAllN_, ↓gAnyN_, ↓gAnyI_, ↓gMaxN_, ↓gMax1_rl, ↓gMax1_ref, ↓gMinN_, ↓gMin1_rl, ↓gMin1_ref, ↓gSum_rl, ↓gSum_ref, ↓dChain_, ↓sAug_, ↓gIndex_, ↓dVar_0, ↓dVar_1, ↓dVar_2, ↓dVar_3, ↓dVar_4, ↓dVar_5, ↓dVar_6, ↓dVar_7, ↓dVar_8, ↓dVar_9, ↓dVar_10, ↓dVar_11, ↓dVar_12, ↓dVar_13, ↓dVar_14, ↓dVar_15, ↓dVar_16, ↓dVar_17, ↓dVar_18, ↓dVar_19, ↓dVar_20, ↓dVar_21, ↓dVar_22, ↓dVar_23, ↓dVar_24, ↓dVar_25, ↓sz_0, ↓sz_1, ↓sz_2, ↓sz_3, ↓sz_4, ↓sz_5, ↓sz_6, ↓sz_7, ↓sz_8, ↓sz_9, ↓sz_10, ↓sz_11, ↓sz_12, ↓sz_13, ↓u_dNewT, ↓u_sPutT, ↓u_sSeq, ↓u_sNext, ↓u_sSet, ↓u_sSetN, ↓u_sAsg, ↓u_sIf, ↓u_sRet, ↓u_sRetN, ↓u_sDrop, ↓u_sPar, ↓u_sFor, ↓u_sBreak, ↓u_sCont, ↓u_dC, ↓u_d2, ↓u_d1, ↓u_dTup, ↓u_dNew, ↓u_aNil, ↓u_aCons, ↓u_nLst, ↓u_tAnd', ↓u_tOr', ↓u_tNot', ↓u_dIf, ↓u_gName', ↓u_dCall, ↓u_dB, ↓u_dLenN, ↓u_dTupN, ↓u_dM, ↓u_iNew, ↓u_nLc, ↓u_dN1, ↓u_dCut, ↓u_nCutN, ↓u_nCatNN, ↓u_d2N, ↓u_dNN, ↓u_tYes', ↓u_dS, List.set_cons_zero, List.set_cons_succ, dwipe, ite_true, ite_false, Bool.false_eq_true, Bool.true_eq_false, Bool.not_true, Bool.not_false, beq_self_eq_true, decide_eq_true_eq, Bool.not_eq_true', decide_eq_false_iff_not, mput_same, mput_put, dends, List.length_cons, List.length_nil, true_and, and_true, Nat.reduceAdd, Nat.reduceEqDiff, Int.reduceToNat, ↓x_tabLen, ↓x_fr0, ↓x_fr1, ↓x_kn0, ↓x_kn1, ↓x_map, ↓x_at0, ↓x_at1, ↓x_len, ↓x_row, ↓x_cut, ↓x_tup2, ↓x_tupfr, ↓x_isiT, ↓x_isiK, ↓x_isiF, ↓x_notN, ↓x_getT, ↓x_putT, ↓x_notNM]
        rw [rowIt_lst hd2, itK_some]
        refine lc_ix D.ref us (fun i => D.int (mnB n t (j + 1) i)) hd2 (by omega) ?_ ?_
        · intro i hi acc W hacc hW
          simp only [(hu i hi).2, ↓bK_bl, ↓lstK_lst, ↓intK_int, ↓optK_some, ↓tBool_, ↓dAndV_, ↓dOrV_, ↓dNotV_, ↓gI_, ↓gI0_, ↓gAdd_int, ↓gAdd_str, ↓gAdd_tup, ↓gAdd_ref, ↓gNeg_, ↓gIx_tup, ↓gIx_rl, ↓gIx_ref, ↓gIx_str, ↓atK_0, ↓atK_1, ↓atK_2, ↓atK_3, ↓atK_4, ↓atK_5, ↓atK_6, ↓atK_7, ↓atK_last, ↓setK_0, ↓setK_1, ↓setK_2, ↓setK_3, ↓gLen_str, ↓gLen_tup, ↓gLen_rl, ↓gLen_ref, ↓gTupleOf_tup, ↓gTupleOf_rl, ↓gTupleOf_ref, ↓seqK_tup, ↓seqK_rl, ↓seqK_ref, ↓nListOf_, ↓isLst_ref, ↓gAppend_, ↓gInsert_, ↓isStr_str, ↓strK_str, ↓gStrCount_, ↓dJoinN_, ↓gPopAt_, ↓nRange1_, ↓gPop_, ↓refK_ref, ↓dExtN_, ↓gExt_, ↓gSetIx_, ↓itK_some, ↓iRow_, ↓rowIt_tup, ↓rowIt_rl, ↓rowIt_str, ↓iRng1_, ↓iRng2_, ↓iZip_, ↓iEnum_, ↓gNil_, ↓gCons_, ↓gTup_, ↓gTup_ref, ↓gAbs_, ↓gMax2_, ↓gMin2_, ↓gInt_int, ↓gInt_bl, ↓gLe_int, ↓gIsN_non, ↓gIsN_tup, ↓gIsN_int, ↓gIsN_str, ↓gIsN_ref, ↓gIsN_bl, ↓isi_bool_bool, ↓isi_bool_int, ↓isi_int_int, ↓isi_int_bool, ↓isi_tuple_tup, ↓isi_int_tup, ↓isi_bool_tup, ↓isi_str_str, ↓isi_tuple_int, ↓isi_tuple_non, ↓gEq_int, ↓gNe_int, ↓gEq_bl, ↓gNe_bl, ↓gEq_str, ↓gNe_str, ↓gEq_int_non, ↓oNone_, ↓oSome_, ↓gCut_str, ↓gCut_tup, ↓gCut_ref, ↓gCut_rl, ↓rowK_rl, ↓rowK_ref, ↓nCut_, ↓nSorted_, ↓gSorted1_, ↓nRev_, ↓nCatEN_, ↓nRep_, ↓tupK_tup, ↓keysD_two, ↓dtK_dT, ↓gGetT_, ↓gPutT_, ↓nKeysT_, ↓gIsB_, ↓nRepE_, ↓dIxN_, ↓gSumN_, ↓gAllN_, ↓gAnyN_, ↓gAnyI_, ↓gMaxN_, ↓gMax1_rl, ↓gMax1_ref, ↓gMinN_, ↓gMin1_rl, ↓gMin1_ref, ↓gSum_rl, ↓gSum_ref, ↓dChain_, ↓sAug_, ↓gIndex_, ↓dVar_0, ↓dVar_1, ↓dVar_2, ↓dVar_3, ↓dVar_4, ↓dVar_5, ↓dVar_6, ↓dVar_7, ↓dVar_8, ↓dVar_9, ↓dVar_10, ↓dVar_11, ↓dVar_12, ↓dVar_13, ↓dVar_14, ↓dVar_15, ↓dVar_16, ↓dVar_17, ↓dVar_18, ↓dVar_19, ↓dVar_20, ↓dVar_21, ↓dVar_22, ↓dVar_23, ↓dVar_24, ↓dVar_25, ↓sz_0, ↓sz_1, ↓sz_2, ↓sz_3, ↓sz_4, ↓sz_5, ↓sz_6, ↓sz_7, ↓sz_8, ↓sz_9, ↓sz_10, ↓sz_11, ↓sz_12, ↓sz_13, ↓u_dNewT, ↓u_sPutT, ↓u_sSeq, ↓u_sNext, ↓u_sSet, ↓u_sSetN, ↓u_sAsg, ↓u_sIf, ↓u_sRet, ↓u_sRetN, ↓u_sDrop, ↓u_sPar, ↓u_sFor, ↓u_sBreak, ↓u_sCont, ↓u_dC, ↓u_d2, ↓u_d1, ↓u_dTup, ↓u_dNew, ↓u_aNil, ↓u_aCons, ↓u_nLst, ↓u_tAnd', ↓u_tOr', ↓u_tNot', ↓u_dIf, ↓u_gName', ↓u_dCall, ↓u_dB, ↓u_dLenN, ↓u_dTupN, ↓u_dM, ↓u_iNew, ↓u_nLc, ↓u_dN1, ↓u_dCut, ↓u_nCutN, ↓u_nCatNN, ↓u_d2N, ↓u_dNN, ↓u_tYes', ↓u_dS, List.set_cons_zero, List.set_cons_succ, dwipe, ite_true, ite_false, Bool.false_eq_true, Bool.true_eq_false, Bool.not_true, Bool.not_false, beq_self_eq_true, decide_eq_true_eq, Bool.not_eq_true', decide_eq_false_iff_not, mput_same, mput_put, dends, List.length_cons, List.length_nil, true_and, and_true, Nat.reduceAdd, Nat.reduceEqDiff, Int.reduceToNat, ↓x_tabLen, ↓x_fr0, ↓x_fr1, ↓x_kn0, ↓x_kn1, ↓x_map, ↓x_at0, ↓x_at1, ↓x_len, ↓x_row, ↓x_cut, ↓x_tup2, ↓x_tupfr, ↓x_isiT, ↓x_isiK, ↓x_isiF, ↓x_notN, ↓x_getT, ↓x_putT, ↓x_notNM]
          rw [intsOf_of, optK_some]
          refine ⟨by simp; omega, fun z hz hm => ?_⟩
          rw [← mnB_of hz hm] at hW
          exact ⟨hacc, hW⟩
        · rw [hun]
          have em : (List.range n).map (fun i => D.int (mnB n t (j + 1) i)) = ((List.range n).map (mnB n t (j + 1))).map D.int := by rw [List.map_map]; rfl
          rw [em]
          try simp only [↓bK_bl, ↓lstK_lst, ↓intK_int, ↓optK_some, ↓tBool_, ↓dAndV_, ↓dOrV_, ↓dNotV_, ↓gI_, ↓gI0_, ↓gAdd_int, ↓gAdd_str, ↓gAdd_tup, ↓gAdd_ref, ↓gNeg_, ↓gIx_tup, ↓gIx_rl, ↓gIx_ref, ↓gIx_str, ↓atK_0, ↓atK_1, ↓atK_2, ↓atK_3, ↓atK_4, ↓atK_5, ↓atK_6, ↓atK_7, ↓atK_last, ↓setK_0, ↓setK_1, ↓setK_2, ↓setK_3, ↓gLen_str, ↓gLen_tup, ↓gLen_rl, ↓gLen_ref, ↓gTupleOf_tup, ↓gTupleOf_rl, ↓gTupleOf_ref, ↓seqK_tup, ↓seqK_rl, ↓seqK_ref, ↓nListOf_, ↓isLst_ref, ↓gAppend_, ↓gInsert_, ↓isStr_str, ↓strK_str, ↓gStrCount_, ↓dJoinN_, ↓gPopAt_, ↓nRange1_, ↓gPop_, ↓refK_ref, ↓dExtN_, ↓gExt_, ↓gSetIx_, ↓itK_some, ↓iRow_, ↓rowIt_tup, ↓rowIt_rl, ↓rowIt_str, ↓iRng1_, ↓iRng2_, ↓iZip_, ↓iEnum_, ↓gNil_, ↓gCons_, ↓gTup_, ↓gTup_ref, ↓gAbs_, ↓gMax2_, ↓gMin2_, ↓gInt_int, ↓gInt_bl, ↓gLe_int, ↓gIsN_non, ↓gIsN_tup, ↓gIsN_int, ↓gIsN_str, ↓gIsN_ref, ↓gIsN_bl, ↓isi_bool_bool, ↓isi_bool_int, ↓isi_int_int, ↓isi_int_bool, ↓isi_tuple_tup, ↓isi_int_tup, ↓isi_bool_tup, ↓isi_str_str, ↓isi_tuple_int, ↓isi_tuple_non, ↓gEq_int, ↓gNe_int, ↓gEq_bl, ↓gNe_bl, ↓gEq_str, ↓gNe_str, ↓gEq_int_non, ↓oNone_, ↓oSome_, ↓gCut_str, ↓gCut_tup, ↓gCut_ref, ↓gCut_rl, ↓rowK_rl, ↓rowK_ref, ↓nCut_, ↓nSorted_, ↓gSorted1_, ↓nRev_, ↓nCatEN_, ↓nRep_, ↓tupK_tup, ↓keysD_two, ↓dtK_dT, ↓gGetT_, ↓gPutT_, ↓nKeysT_, ↓gIsB_, ↓nRepE_, ↓dIxN_, ↓gSumN_, ↓gAllN_, ↓gAnyN_, ↓gAnyI_, ↓gMaxN_, ↓gMax1_rl, ↓gMax1_ref, ↓gMinN_, ↓gMin1_rl, ↓gMin1_ref, ↓gSum_rl, ↓gSum_ref, ↓dChain_, ↓sAug_, ↓gIndex_, ↓dVar_0, ↓dVar_1, ↓dVar_2, ↓dVar_3, ↓dVar_4, ↓dVar_5, ↓dVar_6, ↓dVar_7, ↓dVar_8, ↓dVar_9, ↓dVar_10, ↓dVar_11, ↓dVar_12, ↓dVar_13, ↓dVar_14, ↓dVar_15, ↓dVar_16, ↓dVar_17, ↓dVar_18, ↓dVar_19, ↓dVar_20, ↓dVar_21, ↓dVar_22, ↓dVar_23, ↓dVar_24, ↓dVar_25, ↓sz_0, ↓sz_1, ↓sz_2, ↓sz_3, ↓sz_4, ↓sz_5, ↓sz_6, ↓sz_7, ↓sz_8, ↓sz_9, ↓sz_10, ↓sz_11, ↓sz_12, ↓sz_13, ↓u_dNewT, ↓u_sPutT, ↓u_sSeq, ↓u_sNext, ↓u_sSet, ↓u_sSetN, ↓u_sAsg, ↓u_sIf, ↓u_sRet, ↓u_sRetN, ↓u_sDrop, ↓u_sPar, ↓u_sFor, ↓u_sBreak, ↓u_sCont, ↓u_dC, ↓u_d2, ↓u_d1, ↓u_dTup, ↓u_dNew, ↓u_aNil, ↓u_aCons, ↓u_nLst, ↓u_tAnd', ↓u_tOr', ↓u_tNot', ↓u_dIf, ↓u_gName', ↓u_dCall, ↓u_dB, ↓u_dLenN, ↓u_dTupN, ↓u_dM, ↓u_iNew, ↓u_nLc, ↓u_dN1, ↓u_dCut, ↓u_nCutN, ↓u_nCatNN, ↓u_d2N, ↓u_dNN, ↓u_tYes', ↓u_dS, List.set_cons_zero, List.set_cons_succ, dwipe, ite_true, ite_false, Bool.false_eq_true, Bool.true_eq_false, Bool.not_true, Bool.not_false, beq_self_eq_true, decide_eq_true_eq, Bool.not_eq_true', decide_eq_false_iff_not, mput_same, mput_put, dends, List.length_cons, List.length_nil, true_and, and_true, Nat.reduceAdd, Nat.reduceEqDiff, Int.reduceToNat, ↓x_tabLen, ↓x_fr0, ↓x_fr1, ↓x_kn0, ↓x_kn1, ↓x_map, ↓x_at0, ↓x_at1, ↓x_len, ↓x_row, ↓x_cut, ↓x_tup2, ↓x_tupfr, ↓x_isiT, ↓x_isiK, ↓x_isiF, ↓x_notN, ↓x_getT, ↓x_putT, ↓x_notNM]
          rw [intsOf_of, optK_some]
          refine ⟨by simp; omega, fun z hz hm => ?_⟩
          have hf := mn_full hz hm
          by_cases c : FullW n (relT t) (j + 1)
          · try simp only [↓bK_bl, ↓lstK_lst, ↓intK_int, ↓optK_some, ↓tBool_, ↓dAndV_, ↓dOrV_, ↓dNotV_, ↓gI_, ↓gI0_, ↓gAdd_int, ↓gAdd_str, ↓gAdd_tup, ↓gAdd_ref, ↓gNeg_, ↓gIx_tup, ↓gIx_rl, ↓gIx_ref, ↓gIx_str, ↓atK_0, ↓atK_1, ↓atK_2, ↓atK_3, ↓atK_4, ↓atK_5, ↓atK_6, ↓atK_7, ↓atK_last, ↓setK_0, ↓setK_1, ↓setK_2, ↓setK_3, ↓gLen_str, ↓gLen_tup, ↓gLen_rl, ↓gLen_ref, ↓gTupleOf_tup, ↓gTupleOf_rl, ↓gTupleOf_ref, ↓seqK_tup, ↓seqK_rl, ↓seqK_ref, ↓nListOf_, ↓isLst_ref, ↓gAppend_, ↓gInsert_, ↓isStr_str, ↓strK_str, ↓gStrCount_, ↓dJoinN_, ↓gPopAt_, ↓nRange1_, ↓gPop_, ↓refK_ref, ↓dExtN_, ↓gExt_, ↓gSetIx_, ↓itK_some, ↓iRow_, ↓rowIt_tup, ↓rowIt_rl, ↓rowIt_str, ↓iRng1_, ↓iRng2_, ↓iZip_, ↓iEnum_, ↓gNil_, ↓gCons_, ↓gTup_, ↓gTup_ref, ↓gAbs_, ↓gMax2_, ↓gMin2_, ↓gInt_int, ↓gInt_bl, ↓gLe_int, ↓gIsN_non, ↓gIsN_tup, ↓gIsN_int, ↓gIsN_str, ↓gIsN_ref, ↓gIsN_bl, ↓isi_bool_bool, ↓isi_bool_int, ↓isi_int_int, ↓isi_int_bool, ↓isi_tuple_tup, ↓isi_int_tup, ↓isi_bool_tup, ↓isi_str_str, ↓isi_tuple_int, ↓isi_tuple_non, ↓gEq_int, ↓gNe_int, ↓gEq_bl, ↓gNe_bl, ↓gEq_str, ↓gNe_str, ↓gEq_int_non, ↓oNone_, ↓oSome_, ↓gCut_str, ↓gCut_tup, ↓gCut_ref, ↓gCut_rl, ↓rowK_rl, ↓rowK_ref, ↓nCut_, ↓nSorted_, ↓gSorted1_, ↓nRev_, ↓nCatEN_, ↓nRep_, ↓tupK_tup, ↓keysD_two, ↓dtK_dT, ↓gGetT_, ↓gPutT_, ↓nKeysT_, ↓gIsB_, ↓nRepE_, ↓dIxN_, ↓gSumN_, ↓gAllN_, ↓gAnyN_, ↓gAnyI_, ↓gMaxN_, ↓gMax1_rl, ↓gMax1_ref, ↓gMinN_, ↓gMin1_rl, ↓gMin1_ref, ↓gSum_rl, ↓gSum_ref, ↓dChain_, ↓sAug_, ↓gIndex_, ↓dVar_0, ↓dVar_1, ↓dVar_2, ↓dVar_3, ↓dVar_4, ↓dVar_5, ↓dVar_6, ↓dVar_7, ↓dVar_8, ↓dVar_9, ↓dVar_10, ↓dVar_11, ↓dVar_12, ↓dVar_13, ↓dVar_14, ↓dVar_15, ↓dVar_16, ↓dVar_17, ↓dVar_18, ↓dVar_19, ↓dVar_20, ↓dVar_21, ↓dVar_22, ↓dVar_23, ↓dVar_24, ↓dVar_25, ↓sz_0, ↓sz_1, ↓sz_2, ↓sz_3, ↓sz_4, ↓sz_5, ↓sz_6, ↓sz_7, ↓sz_8, ↓sz_9, ↓sz_10, ↓sz_11, ↓sz_12, ↓sz_13, ↓u_dNewT, ↓u_sPutT, ↓u_sSeq, ↓u_sNext, ↓u_sSet, ↓u_sSetN, ↓u_sAsg, ↓u_sIf, ↓u_sRet, ↓u_sRetN, ↓u_sDrop, ↓u_sPar, ↓u_sFor, ↓u_sBreak, ↓u_sCont, ↓u_dC, ↓u_d2, ↓u_d1, ↓u_dTup, ↓u_dNew, ↓u_aNil, ↓u_aCons, ↓u_nLst, ↓u_tAnd', ↓u_tOr', ↓u_tNot', ↓u_dIf, ↓u_gName', ↓u_dCall, ↓u_dB, ↓u_dLenN, ↓u_dTupN, ↓u_dM, ↓u_iNew, ↓u_nLc, ↓u_dN1, ↓u_dCut, ↓u_nCutN, ↓u_nCatNN, ↓u_d2N, ↓u_dNN, ↓u_tYes', ↓u_dS, List.set_cons_zero, List.set_cons_succ, dwipe, ite_true, ite_false, Bool.false_eq_true, Bool.true_eq_false, Bool.not_true, Bool.not_false, beq_self_eq_true, decide_eq_true_eq, Bool.not_eq_true', decide_eq_false_iff_not, mput_same, mput_put, dends, List.length_cons, List.length_nil, true_and, and_true, Nat.reduceAdd, Nat.reduceEqDiff, Int.reduceToNat, ↓x_tabLen, ↓x_fr0, ↓x_fr1, ↓x_kn0, ↓x_kn1, ↓x_map, ↓x_at0, ↓x_at1, ↓x_len, ↓x_row, ↓x_cut, ↓x_tup2, ↓x_tupfr, ↓x_isiT, ↓x_isiK, ↓x_isiF, ↓x_notN, ↓x_getT, ↓x_putT, ↓x_notNM]
            rw [if_pos (hf.mpr c)]
            rw [fst_some hj hno c] at hR
            refine ⟨m, hs2, ?_⟩
            rw [show (1 : Int) + (j : Int) = (j : Int) + 1 by omega]
            exact hR
          · try simp only [↓bK_bl, ↓lstK_lst, ↓intK_int, ↓optK_some, ↓tBool_, ↓dAndV_, ↓dOrV_, ↓dNotV_, ↓gI_, ↓gI0_, ↓gAdd_int, ↓gAdd_str, ↓gAdd_tup, ↓gAdd_ref, ↓gNeg_, ↓gIx_tup, ↓gIx_rl, ↓gIx_ref, ↓gIx_str, ↓atK_0, ↓atK_1, ↓atK_2, ↓atK_3, ↓atK_4, ↓atK_5, ↓atK_6, ↓atK_7, ↓atK_last, ↓setK_0, ↓setK_1, ↓setK_2, ↓setK_3, ↓gLen_str, ↓gLen_tup, ↓gLen_rl, ↓gLen_ref, ↓gTupleOf_tup, ↓gTupleOf_rl, ↓gTupleOf_ref, ↓seqK_tup, ↓seqK_rl, ↓seqK_ref, ↓nListOf_, ↓isLst_ref, ↓gAppend_, ↓gInsert_, ↓isStr_str, ↓strK_str, ↓gStrCount_, ↓dJoinN_, ↓gPopAt_, ↓nRange1_, ↓gPop_, ↓refK_ref, ↓dExtN_, ↓gExt_, ↓gSetIx_, ↓itK_some, ↓iRow_, ↓rowIt_tup, ↓rowIt_rl, ↓rowIt_str, ↓iRng1_, ↓iRng2_, ↓iZip_, ↓iEnum_, ↓gNil_, ↓gCons_, ↓gTup_, ↓gTup_ref, ↓gAbs_, ↓gMax2_, ↓gMin2_, ↓gInt_int, ↓gInt_bl, ↓gLe_int, ↓gIsN_non, ↓gIsN_tup, ↓gIsN_int, ↓gIsN_str, ↓gIsN_ref, ↓gIsN_bl, ↓isi_bool_bool, ↓isi_bool_int, ↓isi_int_int, ↓isi_int_bool, ↓isi_tuple_tup, ↓isi_int_tup, ↓isi_bool_tup, ↓isi_str_str, ↓isi_tuple_int, ↓isi_tuple_non, ↓gEq_int, ↓gNe_int, ↓gEq_bl, ↓gNe_bl, ↓gEq_str, ↓gNe_str, ↓gEq_int_non, ↓oNone_, ↓oSome_, ↓gCut_str, ↓gCut_tup, ↓gCut_ref, ↓gCut_rl, ↓rowK_rl, ↓rowK_ref, ↓nCut_, ↓nSorted_, ↓gSorted1_, ↓nRev_, ↓nCatEN_, ↓nRep_, ↓tupK_tup, ↓keysD_two, ↓dtK_dT, ↓gGetT_, ↓gPutT_, ↓nKeysT_, ↓gIsB_, ↓nRepE_, ↓dIxN_, ↓gSumN_, ↓gAllN_, ↓gAnyN_, ↓gAnyI_, ↓gMaxN_, ↓gMax1_rl, ↓gMax1_ref, ↓gMinN_, ↓gMin1_rl, ↓gMin1_ref, ↓gSum_rl, ↓gSum_ref, ↓dChain_, ↓sAug_, ↓gIndex_, ↓dVar_0, ↓dVar_1, ↓dVar_2, ↓dVar_3, ↓dVar_4, ↓dVar_5, ↓dVar_6, ↓dVar_7, ↓dVar_8, ↓dVar_9, ↓dVar_10, ↓dVar_11, ↓dVar_12, ↓dVar_13, ↓dVar_14, ↓dVar_15, ↓dVar_16, ↓dVar_17, ↓dVar_18, ↓dVar_19, ↓dVar_20, ↓dVar_21, ↓dVar_22, ↓dVar_23, ↓dVar_24, ↓dVar_25, ↓sz_0, ↓sz_1, ↓sz_2, ↓sz_3, ↓sz_4, ↓sz_5, ↓sz_6, ↓sz_7, ↓sz_8, ↓sz_9, ↓sz_10, ↓sz_11, ↓sz_12, ↓sz_13, ↓u_dNewT, ↓u_sPutT, ↓u_sSeq, ↓u_sNext, ↓u_sSet, ↓u_sSetN, ↓u_sAsg, ↓u_sIf, ↓u_sRet, ↓u_sRetN, ↓u_sDrop, ↓u_sPar, ↓u_sFor, ↓u_sBreak, ↓u_sCont, ↓u_dC, ↓u_d2, ↓u_d1, ↓u_dTup, ↓u_dNew, ↓u_aNil, ↓u_aCons, ↓u_nLst, ↓u_tAnd', ↓u_tOr', ↓u_tNot', ↓u_dIf, ↓u_gName', ↓u_dCall, ↓u_dB, ↓u_dLenN, ↓u_dTupN, ↓u_dM, ↓u_iNew, ↓u_nLc, ↓u_dN1, ↓u_dCut, ↓u_nCutN, ↓u_nCatNN, ↓u_d2N, ↓u_dNN, ↓u_tYes', ↓u_dS, List.set_cons_zero, List.set_cons_succ, dwipe, ite_true, ite_false, Bool.false_eq_true, Bool.true_eq_false, Bool.not_true, Bool.not_false, beq_self_eq_true, decide_eq_true_eq, Bool.not_eq_true', decide_eq_false_iff_not, mput_same, mput_put, dends, List.length_cons, List.length_nil, true_and, and_true, Nat.reduceAdd, Nat.reduceEqDiff, Int.reduceToNat, ↓x_tabLen, ↓x_fr0, ↓x_fr1, ↓x_kn0, ↓x_kn1, ↓x_map, ↓x_at0, ↓x_at1, ↓x_len, ↓x_row, ↓x_cut, ↓x_tup2, ↓x_tupfr, ↓x_isiT, ↓x_isiK, ↓x_isiF, ↓x_notN, ↓x_getT, ↓x_putT, ↓x_notNM]
            rw [if_neg (fun h => c (hf.mp h))]
            refine hnx _ _ ⟨d, _, _, _, rfl, hSq2, hs2, fun k hk => ?_⟩
            by_cases e : k = j
            · subst e
              exact c
            · exact hno k (by omega)
      · rintro x xs nx2 hnx2 r M2 ⟨us, q5, rfl, hx, hul, hk, hd2, hu⟩
        have hi : us.length < gs.length := by
          have := congrArg List.length hx
          simp at this
          omega
        rw [List.drop_eq_getElem_cons hi] at hx
        injection hx with er ex
        subst er
        refine ⟨hk _ _ (Ne.symm dg) g1, ?_⟩
        have hrow := hk _ _ (gd us.length hi) (g3 us.length hi)
        simp only [t_law_due_b5, ↓bK_bl, ↓lstK_lst, ↓intK_int, ↓optK_some, ↓tBool_, ↓dAndV_, ↓dOrV_, ↓dNotV_, ↓gI_, ↓gI0_, ↓gAdd_int, ↓gAdd_str, ↓gAdd_tup, ↓gAdd_ref, ↓gNeg_, ↓gIx_tup, ↓gIx_rl, ↓gIx_ref, ↓gIx_str, ↓atK_0, ↓atK_1, ↓atK_2, ↓atK_3, ↓atK_4, ↓atK_5, ↓atK_6, ↓atK_7, ↓atK_last, ↓setK_0, ↓setK_1, ↓setK_2, ↓setK_3, ↓gLen_str, ↓gLen_tup, ↓gLen_rl, ↓gLen_ref, ↓gTupleOf_tup, ↓gTupleOf_rl, ↓gTupleOf_ref, ↓seqK_tup, ↓seqK_rl, ↓seqK_ref, ↓nListOf_, ↓isLst_ref, ↓gAppend_, ↓gInsert_, ↓isStr_str, ↓strK_str, ↓gStrCount_, ↓dJoinN_, ↓gPopAt_, ↓nRange1_, ↓gPop_, ↓refK_ref, ↓dExtN_, ↓gExt_, ↓gSetIx_, ↓itK_some, ↓iRow_, ↓rowIt_tup, ↓rowIt_rl, ↓rowIt_str, ↓iRng1_, ↓iRng2_, ↓iZip_, ↓iEnum_, ↓gNil_, ↓gCons_, ↓gTup_, ↓gTup_ref, ↓gAbs_, ↓gMax2_, ↓gMin2_, ↓gInt_int, ↓gInt_bl, ↓gLe_int, ↓gIsN_non, ↓gIsN_tup, ↓gIsN_int, ↓gIsN_str, ↓gIsN_ref, ↓gIsN_bl, ↓isi_bool_bool, ↓isi_bool_int, ↓isi_int_int, ↓isi_int_bool, ↓isi_tuple_tup, ↓isi_int_tup, ↓isi_bool_tup, ↓isi_str_str, ↓isi_tuple_int, ↓isi_tuple_non, ↓gEq_int, ↓gNe_int, ↓gEq_bl, ↓gNe_bl, ↓gEq_str, ↓gNe_str, ↓gEq_int_non, ↓oNone_, ↓oSome_, ↓gCut_str, ↓gCut_tup, ↓gCut_ref, ↓gCut_rl, ↓rowK_rl, ↓rowK_ref, ↓nCut_, ↓nSorted_, ↓gSorted1_, ↓nRev_, ↓nCatEN_, ↓nRep_, ↓tupK_tup, ↓keysD_two, ↓dtK_dT, ↓gGetT_, ↓gPutT_, ↓nKeysT_, ↓gIsB_, ↓nRepE_, ↓dIxN_, ↓gSumN_, ↓gAllN_, ↓gAnyN_, ↓gAnyI_, ↓gMaxN_, ↓gMax1_rl, ↓gMax1_ref, ↓gMinN_, ↓gMin1_rl, ↓gMin1_ref, ↓gSum_rl, ↓gSum_ref, ↓dChain_, ↓sAug_, ↓gIndex_, ↓dVar_0, ↓dVar_1, ↓dVar_2, ↓dVar_3, ↓dVar_4, ↓dVar_5, ↓dVar_6, ↓dVar_7, ↓dVar_8, ↓dVar_9, ↓dVar_10, ↓dVar_11, ↓dVar_12, ↓dVar_13, ↓dVar_14, ↓dVar_15, ↓dVar_16, ↓dVar_17, ↓dVar_18, ↓dVar_19, ↓dVar_20, ↓dVar_21, ↓dVar_22, ↓dVar_23, ↓dVar_24, ↓dVar_25, ↓sz_0, ↓sz_1, ↓sz_2, ↓sz_3, ↓sz_4, ↓sz_5, ↓sz_6, ↓sz_7, ↓sz_8, ↓sz_9, ↓sz_10, ↓sz_11, ↓sz_12, ↓sz_13, ↓u_dNewT, ↓u_sPutT, ↓u_sSeq, ↓u_sNext, ↓u_sSet, ↓u_sSetN, ↓u_sAsg, ↓u_sIf, ↓u_sRet, ↓u_sRetN, ↓u_sDrop, ↓u_sPar, ↓u_sFor, ↓u_sBreak, ↓u_sCont, ↓u_dC, ↓u_d2, ↓u_d1, ↓u_dTup, ↓u_dNew, ↓u_aNil, ↓u_aCons, ↓u_nLst, ↓u_tAnd', ↓u_tOr', ↓u_tNot', ↓u_dIf, ↓u_gName', ↓u_dCall, ↓u_dB, ↓u_dLenN, ↓u_dTupN, ↓u_dM, ↓u_iNew, ↓u_nLc, ↓u_dN1, ↓u_dCut, ↓u_nCutN, ↓u_nCatNN, ↓u_d2N, ↓u_dNN, ↓u_tYes', ↓u_dS, List.set_cons_zero, List.set_cons_succ, dwipe, ite_true, ite_false, Bool.false_eq_true, Bool.true_eq_false, Bool.not_true, Bool.not_false, beq_self_eq_true, decide_eq_true_eq, Bool.not_eq_true', decide_eq_false_iff_not, mput_same, mput_put, dends, List.length_cons, List.length_nil, true_and, and_true, Nat.reduceAdd, Nat.reduceEqDiff, Int.reduceToNat, ↓x_tabLen, ↓x_fr0, ↓x_fr1, ↓x_kn0, ↓x_kn1, ↓x_map, ↓x_at0, ↓x_at1, ↓x_len, ↓x_row, ↓x_cut, ↓x_tup2, ↓x_tupfr, ↓x_isiT, ↓x_isiK, ↓x_isiF, ↓x_notN, ↓x_getT, ↓x_putT, ↓x_notNM]
        refine ⟨⟨_, hd2⟩, by omega, ?_⟩
        rw [show ((n : Nat) : Int).toNat = n by omega, rng_map]
        refine lc_ix _ (List.range n) (fun k => D.int (wkB n t (j + 1) us.length k)) trivial (by simp; omega) ?_ ?_
        · intro k hk' acc W hacc hW
          simp only [List.getElem_range]
          simp only [List.length_range] at hk'
          try simp only [↓bK_bl, ↓lstK_lst, ↓intK_int, ↓optK_some, ↓tBool_, ↓dAndV_, ↓dOrV_, ↓dNotV_, ↓gI_, ↓gI0_, ↓gAdd_int, ↓gAdd_str, ↓gAdd_tup, ↓gAdd_ref, ↓gNeg_, ↓gIx_tup, ↓gIx_rl, ↓gIx_ref, ↓gIx_str, ↓atK_0, ↓atK_1, ↓atK_2, ↓atK_3, ↓atK_4, ↓atK_5, ↓atK_6, ↓atK_7, ↓atK_last, ↓setK_0, ↓setK_1, ↓setK_2, ↓setK_3, ↓gLen_str, ↓gLen_tup, ↓gLen_rl, ↓gLen_ref, ↓gTupleOf_tup, ↓gTupleOf_rl, ↓gTupleOf_ref, ↓seqK_tup, ↓seqK_rl, ↓seqK_ref, ↓nListOf_, ↓isLst_ref, ↓gAppend_, ↓gInsert_, ↓isStr_str, ↓strK_str, ↓gStrCount_, ↓dJoinN_, ↓gPopAt_, ↓nRange1_, ↓gPop_, ↓refK_ref, ↓dExtN_, ↓gExt_, ↓gSetIx_, ↓itK_some, ↓iRow_, ↓rowIt_tup, ↓rowIt_rl, ↓rowIt_str, ↓iRng1_, ↓iRng2_, ↓iZip_, ↓iEnum_, ↓gNil_, ↓gCons_, ↓gTup_, ↓gTup_ref, ↓gAbs_, ↓gMax2_, ↓gMin2_, ↓gInt_int, ↓gInt_bl, ↓gLe_int, ↓gIsN_non, ↓gIsN_tup, ↓gIsN_int, ↓gIsN_str, ↓gIsN_ref, ↓gIsN_bl, ↓isi_bool_bool, ↓isi_bool_int, ↓isi_int_int, ↓isi_int_bool, ↓isi_tuple_tup, ↓isi_int_tup, ↓isi_bool_tup, ↓isi_str_str, ↓isi_tuple_int, ↓isi_tuple_non, ↓gEq_int, ↓gNe_int, ↓gEq_bl, ↓gNe_bl, ↓gEq_str, ↓gNe_str, ↓gEq_int_non, ↓oNone_, ↓oSome_, ↓gCut_str, ↓gCut_tup, ↓gCut_ref, ↓gCut_rl, ↓rowK_rl, ↓rowK_ref, ↓nCut_, ↓nSorted_, ↓gSorted1_, ↓nRev_, ↓nCatEN_, ↓nRep_, ↓tupK_tup, ↓keysD_two, ↓dtK_dT, ↓gGetT_, ↓gPutT_, ↓nKeysT_, ↓gIsB_, ↓nRepE_, ↓dIxN_, ↓gSumN_, ↓gAllN_, ↓gAnyN_, ↓gAnyI_, ↓gMaxN_, ↓gMax1_rl, ↓gMax1_ref, ↓gMinN_, ↓gMin1_rl, ↓gMin1_ref, ↓gSum_rl, ↓gSum_ref, ↓dChain_, ↓sAug_, ↓gIndex_, ↓dVar_0, ↓dVar_1, ↓dVar_2, ↓dVar_3, ↓dVar_4, ↓dVar_5, ↓dVar_6, ↓dVar_7, ↓dVar_8, ↓dVar_9, ↓dVar_10, ↓dVar_11, ↓dVar_12, ↓dVar_13, ↓dVar_14, ↓dVar_15, ↓dVar_16, ↓dVar_17, ↓dVar_18, ↓dVar_19, ↓dVar_20, ↓dVar_21, ↓dVar_22, ↓dVar_23, ↓dVar_24, ↓dVar_25, ↓sz_0, ↓sz_1, ↓sz_2, ↓sz_3, ↓sz_4, ↓sz_5, ↓sz_6, ↓sz_7, ↓sz_8, ↓sz_9, ↓sz_10, ↓sz_11, ↓sz_12, ↓sz_13, ↓u_dNewT, ↓u_sPutT, ↓u_sSeq, ↓u_sNext, ↓u_sSet, ↓u_sSetN, ↓u_sAsg, ↓u_sIf, ↓u_sRet, ↓u_sRetN, ↓u_sDrop, ↓u_sPar, ↓u_sFor, ↓u_sBreak, ↓u_sCont, ↓u_dC, ↓u_d2, ↓u_d1, ↓u_dTup, ↓u_dNew, ↓u_aNil, ↓u_aCons, ↓u_nLst, ↓u_tAnd', ↓u_tOr', ↓u_tNot', ↓u_dIf, ↓u_gName', ↓u_dCall, ↓u_dB, ↓u_dLenN, ↓u_dTupN, ↓u_dM, ↓u_iNew, ↓u_nLc, ↓u_dN1, ↓u_dCut, ↓u_nCutN, ↓u_nCatNN, ↓u_d2N, ↓u_dNN, ↓u_tYes', ↓u_dS, List.set_cons_zero, List.set_cons_succ, dwipe, ite_true, ite_false, Bool.false_eq_true, Bool.true_eq_false, Bool.not_true, Bool.not_false, beq_self_eq_true, decide_eq_true_eq, Bool.not_eq_true', decide_eq_false_iff_not, mput_same, mput_put, dends, List.length_cons, List.length_nil, true_and, and_true, Nat.reduceAdd, Nat.reduceEqDiff, Int.reduceToNat, ↓x_tabLen, ↓x_fr0, ↓x_fr1, ↓x_kn0, ↓x_kn1, ↓x_map, ↓x_at0, ↓x_at1, ↓x_len, ↓x_row, ↓x_cut, ↓x_tup2, ↓x_tupfr, ↓x_isiT, ↓x_isiK, ↓x_isiF, ↓x_notN, ↓x_getT, ↓x_putT, ↓x_notNM]
          refine ⟨by omega, ?_⟩
          rw [show ((n : Nat) : Int).toNat = n by omega, rng_map]
          refine lc_ix _ (List.range n) (fun q => D.int (wkB n t j us.length q * en t q k)) trivial (by simp; omega) ?_ ?_
          · intro q hq acc2 W2 hacc2 hW2
            simp only [List.getElem_range]
            simp only [List.length_range] at hq
            simp only [hrow, ↓bK_bl, ↓lstK_lst, ↓intK_int, ↓optK_some, ↓tBool_, ↓dAndV_, ↓dOrV_, ↓dNotV_, ↓gI_, ↓gI0_, ↓gAdd_int, ↓gAdd_str, ↓gAdd_tup, ↓gAdd_ref, ↓gNeg_, ↓gIx_tup, ↓gIx_rl, ↓gIx_ref, ↓gIx_str, ↓atK_0, ↓atK_1, ↓atK_2, ↓atK_3, ↓atK_4, ↓atK_5, ↓atK_6, ↓atK_7, ↓atK_last, ↓setK_0, ↓setK_1, ↓setK_2, ↓setK_3, ↓gLen_str, ↓gLen_tup, ↓gLen_rl, ↓gLen_ref, ↓gTupleOf_tup, ↓gTupleOf_rl, ↓gTupleOf_ref, ↓seqK_tup, ↓seqK_rl, ↓seqK_ref, ↓nListOf_, ↓isLst_ref, ↓gAppend_, ↓gInsert_, ↓isStr_str, ↓strK_str, ↓gStrCount_, ↓dJoinN_, ↓gPopAt_, ↓nRange1_, ↓gPop_, ↓refK_ref, ↓dExtN_, ↓gExt_, ↓gSetIx_, ↓itK_some, ↓iRow_, ↓rowIt_tup, ↓rowIt_rl, ↓rowIt_str, ↓iRng1_, ↓iRng2_, ↓iZip_, ↓iEnum_, ↓gNil_, ↓gCons_, ↓gTup_, ↓gTup_ref, ↓gAbs_, ↓gMax2_, ↓gMin2_, ↓gInt_int, ↓gInt_bl, ↓gLe_int, ↓gIsN_non, ↓gIsN_tup, ↓gIsN_int, ↓gIsN_str, ↓gIsN_ref, ↓gIsN_bl, ↓isi_bool_bool, ↓isi_bool_int, ↓isi_int_int, ↓isi_int_bool, ↓isi_tuple_tup, ↓isi_int_tup, ↓isi_bool_tup, ↓isi_str_str, ↓isi_tuple_int, ↓isi_tuple_non, ↓gEq_int, ↓gNe_int, ↓gEq_bl, ↓gNe_bl, ↓gEq_str, ↓gNe_str, ↓gEq_int_non, ↓oNone_, ↓oSome_, ↓gCut_str, ↓gCut_tup, ↓gCut_ref, ↓gCut_rl, ↓rowK_rl, ↓rowK_ref, ↓nCut_, ↓nSorted_, ↓gSorted1_, ↓nRev_, ↓nCatEN_, ↓nRep_, ↓tupK_tup, ↓keysD_two, ↓dtK_dT, ↓gGetT_, ↓gPutT_, ↓nKeysT_, ↓gIsB_, ↓nRepE_, ↓dIxN_, ↓gSumN_, ↓gAllN_, ↓gAnyN_, ↓gAnyI_, ↓gMaxN_, ↓gMax1_rl, ↓gMax1_ref, ↓gMinN_, ↓gMin1_rl, ↓gMin1_ref, ↓gSum_rl, ↓gSum_ref, ↓dChain_, ↓sAug_, ↓gIndex_, ↓dVar_0, ↓dVar_1, ↓dVar_2, ↓dVar_3, ↓dVar_4, ↓dVar_5, ↓dVar_6, ↓dVar_7, ↓dVar_8, ↓dVar_9, ↓dVar_10, ↓dVar_11, ↓dVar_12, ↓dVar_13, ↓dVar_14, ↓dVar_15, ↓dVar_16, ↓dVar_17, ↓dVar_18, ↓dVar_19, ↓dVar_20, ↓dVar_21, ↓dVar_22, ↓dVar_23, ↓dVar_24, ↓dVar_25, ↓sz_0, ↓sz_1, ↓sz_2, ↓sz_3, ↓sz_4, ↓sz_5, ↓sz_6, ↓sz_7, ↓sz_8, ↓sz_9, ↓sz_10, ↓sz_11, ↓sz_12, ↓sz_13, ↓u_dNewT, ↓u_sPutT, ↓u_sSeq, ↓u_sNext, ↓u_sSet, ↓u_sSetN, ↓u_sAsg, ↓u_sIf, ↓u_sRet, ↓u_sRetN, ↓u_sDrop, ↓u_sPar, ↓u_sFor, ↓u_sBreak, ↓u_sCont, ↓u_dC, ↓u_d2, ↓u_d1, ↓u_dTup, ↓u_dNew, ↓u_aNil, ↓u_aCons, ↓u_nLst, ↓u_tAnd', ↓u_tOr', ↓u_tNot', ↓u_dIf, ↓u_gName', ↓u_dCall, ↓u_dB, ↓u_dLenN, ↓u_dTupN, ↓u_dM, ↓u_iNew, ↓u_nLc, ↓u_dN1, ↓u_dCut, ↓u_nCutN, ↓u_nCatNN, ↓u_d2N, ↓u_dNN, ↓u_tYes', ↓u_dS, List.set_cons_zero, List.set_cons_succ, dwipe, ite_true, ite_false, Bool.false_eq_true, Bool.true_eq_false, Bool.not_true, Bool.not_false, beq_self_eq_true, decide_eq_true_eq, Bool.not_eq_true', decide_eq_false_iff_not, mput_same, mput_put, dends, List.length_cons, List.length_nil, true_and, and_true, Nat.reduceAdd, Nat.reduceEqDiff, Int.reduceToNat, ↓x_tabLen, ↓x_fr0, ↓x_fr1, ↓x_kn0, ↓x_kn1, ↓x_map, ↓x_at0, ↓x_at1, ↓x_len, ↓x_row, ↓x_cut, ↓x_tup2, ↓x_tupfr, ↓x_isiT, ↓x_isiK, ↓x_isiF, ↓x_notN, ↓x_getT, ↓x_putT, ↓x_notNM]
            refine atK_of (n := q) (x := .int (wkB n t j us.length q)) rfl ?_ ?_
            · rw [List.getElem?_map, List.getElem?_map, List.getElem?_range hq]
              rfl
            have h1 := wkB_01 n t j us.length q
            have h2 := hT.en hq hk'
            refine tab_at hT (i := (q : Int)) (j := (k : Int)) (by omega) (by omega) (by omega) (by omega) ?_
            try simp only [↓bK_bl, ↓lstK_lst, ↓intK_int, ↓optK_some, ↓tBool_, ↓dAndV_, ↓dOrV_, ↓dNotV_, ↓gI_, ↓gI0_, ↓gAdd_int, ↓gAdd_str, ↓gAdd_tup, ↓gAdd_ref, ↓gNeg_, ↓gIx_tup, ↓gIx_rl, ↓gIx_ref, ↓gIx_str, ↓atK_0, ↓atK_1, ↓atK_2, ↓atK_3, ↓atK_4, ↓atK_5, ↓atK_6, ↓atK_7, ↓atK_last, ↓setK_0, ↓setK_1, ↓setK_2, ↓setK_3, ↓gLen_str, ↓gLen_tup, ↓gLen_rl, ↓gLen_ref, ↓gTupleOf_tup, ↓gTupleOf_rl, ↓gTupleOf_ref, ↓seqK_tup, ↓seqK_rl, ↓seqK_ref, ↓nListOf_, ↓isLst_ref, ↓gAppend_, ↓gInsert_, ↓isStr_str, ↓strK_str, ↓gStrCount_, ↓dJoinN_, ↓gPopAt_, ↓nRange1_, ↓gPop_, ↓refK_ref, ↓dExtN_, ↓gExt_, ↓gSetIx_, ↓itK_some, ↓iRow_, ↓rowIt_tup, ↓rowIt_rl, ↓rowIt_str, ↓iRng1_, ↓iRng2_, ↓iZip_, ↓iEnum_, ↓gNil_, ↓gCons_, ↓gTup_, ↓gTup_ref, ↓gAbs_, ↓gMax2_, ↓gMin2_, ↓gInt_int, ↓gInt_bl, ↓gLe_int, ↓gIsN_non, ↓gIsN_tup, ↓gIsN_int, ↓gIsN_str, ↓gIsN_ref, ↓gIsN_bl, ↓isi_bool_bool, ↓isi_bool_int, ↓isi_int_int, ↓isi_int_bool, ↓isi_tuple_tup, ↓isi_int_tup, ↓isi_bool_tup, ↓isi_str_str, ↓isi_tuple_int, ↓isi_tuple_non, ↓gEq_int, ↓gNe_int, ↓gEq_bl, ↓gNe_bl, ↓gEq_str, ↓gNe_str, ↓gEq_int_non, ↓oNone_, ↓oSome_, ↓gCut_str, ↓gCut_tup, ↓gCut_ref, ↓gCut_rl, ↓rowK_rl, ↓rowK_ref, ↓nCut_, ↓nSorted_, ↓gSorted1_, ↓nRev_, ↓nCatEN_, ↓nRep_, ↓tupK_tup, ↓keysD_two, ↓dtK_dT, ↓gGetT_, ↓gPutT_, ↓nKeysT_, ↓gIsB_, ↓nRepE_, ↓dIxN_, ↓gSumN_, ↓gAllN_, ↓gAnyN_, ↓gAnyI_, ↓gMaxN_, ↓gMax1_rl, ↓gMax1_ref, ↓gMinN_, ↓gMin1_rl, ↓gMin1_ref, ↓gSum_rl, ↓gSum_ref, ↓dChain_, ↓sAug_, ↓gIndex_, ↓dVar_0, ↓dVar_1, ↓dVar_2, ↓dVar_3, ↓dVar_4, ↓dVar_5, ↓dVar_6, ↓dVar_7, ↓dVar_8, ↓dVar_9, ↓dVar_10, ↓dVar_11, ↓dVar_12, ↓dVar_13, ↓dVar_14, ↓dVar_15, ↓dVar_16, ↓dVar_17, ↓dVar_18, ↓dVar_19, ↓dVar_20, ↓dVar_21, ↓dVar_22, ↓dVar_23, ↓dVar_24, ↓dVar_25, ↓sz_0, ↓sz_1, ↓sz_2, ↓sz_3, ↓sz_4, ↓sz_5, ↓sz_6, ↓sz_7, ↓sz_8, ↓sz_9, ↓sz_10, ↓sz_11, ↓sz_12, ↓sz_13, ↓u_dNewT, ↓u_sPutT, ↓u_sSeq, ↓u_sNext, ↓u_sSet, ↓u_sSetN, ↓u_sAsg, ↓u_sIf, ↓u_sRet, ↓u_sRetN, ↓u_sDrop, ↓u_sPar, ↓u_sFor, ↓u_sBreak, ↓u_sCont, ↓u_dC, ↓u_d2, ↓u_d1, ↓u_dTup, ↓u_dNew, ↓u_aNil, ↓u_aCons, ↓u_nLst, ↓u_tAnd', ↓u_tOr', ↓u_tNot', ↓u_dIf, ↓u_gName', ↓u_dCall, ↓u_dB, ↓u_dLenN, ↓u_dTupN, ↓u_dM, ↓u_iNew, ↓u_nLc, ↓u_dN1, ↓u_dCut, ↓u_nCutN, ↓u_nCatNN, ↓u_d2N, ↓u_dNN, ↓u_tYes', ↓u_dS, List.set_cons_zero, List.set_cons_succ, dwipe, ite_true, ite_false, Bool.false_eq_true, Bool.true_eq_false, Bool.not_true, Bool.not_false, beq_self_eq_true, decide_eq_true_eq, Bool.not_eq_true', decide_eq_false_iff_not, mput_same, mput_put, dends, List.length_cons, List.length_nil, true_and, and_true, Nat.reduceAdd, Nat.reduceEqDiff, Int.reduceToNat, ↓x_tabLen, ↓x_fr0, ↓x_fr1, ↓x_kn0, ↓x_kn1, ↓x_map, ↓x_at0, ↓x_at1, ↓x_len, ↓x_row, ↓x_cut, ↓x_tup2, ↓x_tupfr, ↓x_isiT, ↓x_isiK, ↓x_isiF, ↓x_notN, ↓x_getT, ↓x_putT, ↓x_notNM]
            rw [show ((q : Nat) : Int).toNat = q by omega, show ((k : Nat) : Int).toNat = k by omega]
            exact ⟨mul_r (by omega) (by omega), hacc2, hW2⟩
          · rw [List.length_range]
            have em : (List.range n).map (fun q => D.int (wkB n t j us.length q * en t q k)) = ((List.range n).map fun q => wkB n t j us.length q * en t q k).map D.int := by rw [List.map_map]; rfl
            rw [em]
            try simp only [↓bK_bl, ↓lstK_lst, ↓intK_int, ↓optK_some, ↓tBool_, ↓dAndV_, ↓dOrV_, ↓dNotV_, ↓gI_, ↓gI0_, ↓gAdd_int, ↓gAdd_str, ↓gAdd_tup, ↓gAdd_ref, ↓gNeg_, ↓gIx_tup, ↓gIx_rl, ↓gIx_ref, ↓gIx_str, ↓atK_0, ↓atK_1, ↓atK_2, ↓atK_3, ↓atK_4, ↓atK_5, ↓atK_6, ↓atK_7, ↓atK_last, ↓setK_0, ↓setK_1, ↓setK_2, ↓setK_3, ↓gLen_str, ↓gLen_tup, ↓gLen_rl, ↓gLen_ref, ↓gTupleOf_tup, ↓gTupleOf_rl, ↓gTupleOf_ref, ↓seqK_tup, ↓seqK_rl, ↓seqK_ref, ↓nListOf_, ↓isLst_ref, ↓gAppend_, ↓gInsert_, ↓isStr_str, ↓strK_str, ↓gStrCount_, ↓dJoinN_, ↓gPopAt_, ↓nRange1_, ↓gPop_, ↓refK_ref, ↓dExtN_, ↓gExt_, ↓gSetIx_, ↓itK_some, ↓iRow_, ↓rowIt_tup, ↓rowIt_rl, ↓rowIt_str, ↓iRng1_, ↓iRng2_, ↓iZip_, ↓iEnum_, ↓gNil_, ↓gCons_, ↓gTup_, ↓gTup_ref, ↓gAbs_, ↓gMax2_, ↓gMin2_, ↓gInt_int, ↓gInt_bl, ↓gLe_int, ↓gIsN_non, ↓gIsN_tup, ↓gIsN_int, ↓gIsN_str, ↓gIsN_ref, ↓gIsN_bl, ↓isi_bool_bool, ↓isi_bool_int, ↓isi_int_int, ↓isi_int_bool, ↓isi_tuple_tup, ↓isi_int_tup, ↓isi_bool_tup, ↓isi_str_str, ↓isi_tuple_int, ↓isi_tuple_non, ↓gEq_int, ↓gNe_int, ↓gEq_bl, ↓gNe_bl, ↓gEq_str, ↓gNe_str, ↓gEq_int_non, ↓oNone_, ↓oSome_, ↓gCut_str, ↓gCut_tup, ↓gCut_ref, ↓gCut_rl, ↓rowK_rl, ↓rowK_ref, ↓nCut_, ↓nSorted_, ↓gSorted1_, ↓nRev_, ↓nCatEN_, ↓nRep_, ↓tupK_tup, ↓keysD_two, ↓dtK_dT, ↓gGetT_, ↓gPutT_, ↓nKeysT_, ↓gIsB_, ↓nRepE_, ↓dIxN_, ↓gSumN_, ↓gAllN_, ↓gAnyN_, ↓gAnyI_, ↓gMaxN_, ↓gMax1_rl, ↓gMax1_ref, ↓gMinN_, ↓gMin1_rl, ↓gMin1_ref, ↓gSum_rl, ↓gSum_ref, ↓dChain_, ↓sAug_, ↓gIndex_, ↓dVar_0, ↓dVar_1, ↓dVar_2, ↓dVar_3, ↓dVar_4, ↓dVar_5, ↓dVar_6, ↓dVar_7, ↓dVar_8, ↓dVar_9, ↓dVar_10, ↓dVar_11, ↓dVar_12, ↓dVar_13, ↓dVar_14, ↓dVar_15, ↓dVar_16, ↓dVar_17, ↓dVar_18, ↓dVar_19, ↓dVar_20, ↓dVar_21, ↓dVar_22, ↓dVar_23, ↓dVar_24, ↓dVar_25, ↓sz_0, ↓sz_1, ↓sz_2, ↓sz_3, ↓sz_4, ↓sz_5, ↓sz_6, ↓sz_7, ↓sz_8, ↓sz_9, ↓sz_10, ↓sz_11, ↓sz_12, ↓sz_13, ↓u_dNewT, ↓u_sPutT, ↓u_sSeq, ↓u_sNext, ↓u_sSet, ↓u_sSetN, ↓u_sAsg, ↓u_sIf, ↓u_sRet, ↓u_sRetN, ↓u_sDrop, ↓u_sPar, ↓u_sFor, ↓u_sBreak, ↓u_sCont, ↓u_dC, ↓u_d2, ↓u_d1, ↓u_dTup, ↓u_dNew, ↓u_aNil, ↓u_aCons, ↓u_nLst, ↓u_tAnd', ↓u_tOr', ↓u_tNot', ↓u_dIf, ↓u_gName', ↓u_dCall, ↓u_dB, ↓u_dLenN, ↓u_dTupN, ↓u_dM, ↓u_iNew, ↓u_nLc, ↓u_dN1, ↓u_dCut, ↓u_nCutN, ↓u_nCatNN, ↓u_d2N, ↓u_dNN, ↓u_tYes', ↓u_dS, List.set_cons_zero, List.set_cons_succ, dwipe, ite_true, ite_false, Bool.false_eq_true, Bool.true_eq_false, Bool.not_true, Bool.not_false, beq_self_eq_true, decide_eq_true_eq, Bool.not_eq_true', decide_eq_false_iff_not, mput_same, mput_put, dends, List.length_cons, List.length_nil, true_and, and_true, Nat.reduceAdd, Nat.reduceEqDiff, Int.reduceToNat, ↓x_tabLen, ↓x_fr0, ↓x_fr1, ↓x_kn0, ↓x_kn1, ↓x_map, ↓x_at0, ↓x_at1, ↓x_len, ↓x_row, ↓x_cut, ↓x_tup2, ↓x_tupfr, ↓x_isiT, ↓x_isiK, ↓x_isiF, ↓x_notN, ↓x_getT, ↓x_putT, ↓x_notNM]
            rw [intsOf_of, optK_some, sumN_range]
            try simp only [↓bK_bl, ↓lstK_lst, ↓intK_int, ↓optK_some, ↓tBool_, ↓dAndV_, ↓dOrV_, ↓dNotV_, ↓gI_, ↓gI0_, ↓gAdd_int, ↓gAdd_str, ↓gAdd_tup, ↓gAdd_ref, ↓gNeg_, ↓gIx_tup, ↓gIx_rl, ↓gIx_ref, ↓gIx_str, ↓atK_0, ↓atK_1, ↓atK_2, ↓atK_3, ↓atK_4, ↓atK_5, ↓atK_6, ↓atK_7, ↓atK_last, ↓setK_0, ↓setK_1, ↓setK_2, ↓setK_3, ↓gLen_str, ↓gLen_tup, ↓gLen_rl, ↓gLen_ref, ↓gTupleOf_tup, ↓gTupleOf_rl, ↓gTupleOf_ref, ↓seqK_tup, ↓seqK_rl, ↓seqK_ref, ↓nListOf_, ↓isLst_ref, ↓gAppend_, ↓gInsert_, ↓isStr_str, ↓strK_str, ↓gStrCount_, ↓dJoinN_, ↓gPopAt_, ↓nRange1_, ↓gPop_, ↓refK_ref, ↓dExtN_, ↓gExt_, ↓gSetIx_, ↓itK_some, ↓iRow_, ↓rowIt_tup, ↓rowIt_rl, ↓rowIt_str, ↓iRng1_, ↓iRng2_, ↓iZip_, ↓iEnum_, ↓gNil_, ↓gCons_, ↓gTup_, ↓gTup_ref, ↓gAbs_, ↓gMax2_, ↓gMin2_, ↓gInt_int, ↓gInt_bl, ↓gLe_int, ↓gIsN_non, ↓gIsN_tup, ↓gIsN_int, ↓gIsN_str, ↓gIsN_ref, ↓gIsN_bl, ↓isi_bool_bool, ↓isi_bool_int, ↓isi_int_int, ↓isi_int_bool, ↓isi_tuple_tup, ↓isi_int_tup, ↓isi_bool_tup, ↓isi_str_str, ↓isi_tuple_int, ↓isi_tuple_non, ↓gEq_int, ↓gNe_int, ↓gEq_bl, ↓gNe_bl, ↓gEq_str, ↓gNe_str, ↓gEq_int_non, ↓oNone_, ↓oSome_, ↓gCut_str, ↓gCut_tup, ↓gCut_ref, ↓gCut_rl, ↓rowK_rl, ↓rowK_ref, ↓nCut_, ↓nSorted_, ↓gSorted1_, ↓nRev_, ↓nCatEN_, ↓nRep_, ↓tupK_tup, ↓keysD_two, ↓dtK_dT, ↓gGetT_, ↓gPutT_, ↓nKeysT_, ↓gIsB_, ↓nRepE_, ↓dIxN_, ↓gSumN_, ↓gAllN_, ↓gAnyN_, ↓gAnyI_, ↓gMaxN_, ↓gMax1_rl, ↓gMax1_ref, ↓gMinN_, ↓gMin1_rl, ↓gMin1_ref, ↓gSum_rl, ↓gSum_ref, ↓dChain_, ↓sAug_, ↓gIndex_, ↓dVar_0, ↓dVar_1, ↓dVar_2, ↓dVar_3, ↓dVar_4, ↓dVar_5, ↓dVar_6, ↓dVar_7, ↓dVar_8, ↓dVar_9, ↓dVar_10, ↓dVar_11, ↓dVar_12, ↓dVar_13, ↓dVar_14, ↓dVar_15, ↓dVar_16, ↓dVar_17, ↓dVar_18, ↓dVar_19, ↓dVar_20, ↓dVar_21, ↓dVar_22, ↓dVar_23, ↓dVar_24, ↓dVar_25, ↓sz_0, ↓sz_1, ↓sz_2, ↓sz_3, ↓sz_4, ↓sz_5, ↓sz_6, ↓sz_7, ↓sz_8, ↓sz_9, ↓sz_10, ↓sz_11, ↓sz_12, ↓sz_13, ↓u_dNewT, ↓u_sPutT, ↓u_sSeq, ↓u_sNext, ↓u_sSet, ↓u_sSetN, ↓u_sAsg, ↓u_sIf, ↓u_sRet, ↓u_sRetN, ↓u_sDrop, ↓u_sPar, ↓u_sFor, ↓u_sBreak, ↓u_sCont, ↓u_dC, ↓u_d2, ↓u_d1, ↓u_dTup, ↓u_dNew, ↓u_aNil, ↓u_aCons, ↓u_nLst, ↓u_tAnd', ↓u_tOr', ↓u_tNot', ↓u_dIf, ↓u_gName', ↓u_dCall, ↓u_dB, ↓u_dLenN, ↓u_dTupN, ↓u_dM, ↓u_iNew, ↓u_nLc, ↓u_dN1, ↓u_dCut, ↓u_nCutN, ↓u_nCatNN, ↓u_d2N, ↓u_dNN, ↓u_tYes', ↓u_dS, List.set_cons_zero, List.set_cons_succ, dwipe, ite_true, ite_false, Bool.false_eq_true, Bool.true_eq_false, Bool.not_true, Bool.not_false, beq_self_eq_true, decide_eq_true_eq, Bool.not_eq_true', decide_eq_false_iff_not, mput_same, mput_put, dends, List.length_cons, List.length_nil, true_and, and_true, Nat.reduceAdd, Nat.reduceEqDiff, Int.reduceToNat, ↓x_tabLen, ↓x_fr0, ↓x_fr1, ↓x_kn0, ↓x_kn1, ↓x_map, ↓x_at0, ↓x_at1, ↓x_len, ↓x_row, ↓x_cut, ↓x_tup2, ↓x_tupfr, ↓x_isiT, ↓x_isiK, ↓x_isiF, ↓x_notN, ↓x_getT, ↓x_putT, ↓x_notNM]
            rw [wkB_sum hT hk']
            exact ⟨hacc, hW⟩
        · intro c hc
          have cd : c ≠ d := Ne.symm (ne_of hd2 hc)
          have hdc : mput M2 c (.lst ((List.range (List.range n).length).map fun k => D.int (wkB n t (j + 1) us.length k))) d = some (.lst (us.map D.ref)) := by rw [mput_ne (Ne.symm cd)]; exact hd2
          simp only [hdc, ↓bK_bl, ↓lstK_lst, ↓intK_int, ↓optK_some, ↓tBool_, ↓dAndV_, ↓dOrV_, ↓dNotV_, ↓gI_, ↓gI0_, ↓gAdd_int, ↓gAdd_str, ↓gAdd_tup, ↓gAdd_ref, ↓gNeg_, ↓gIx_tup, ↓gIx_rl, ↓gIx_ref, ↓gIx_str, ↓atK_0, ↓atK_1, ↓atK_2, ↓atK_3, ↓atK_4, ↓atK_5, ↓atK_6, ↓atK_7, ↓atK_last, ↓setK_0, ↓setK_1, ↓setK_2, ↓setK_3, ↓gLen_str, ↓gLen_tup, ↓gLen_rl, ↓gLen_ref, ↓gTupleOf_tup, ↓gTupleOf_rl, ↓gTupleOf_ref, ↓seqK_tup, ↓seqK_rl, ↓seqK_ref, ↓nListOf_, ↓isLst_ref, ↓gAppend_, ↓gInsert_, ↓isStr_str, ↓strK_str, ↓gStrCount_, ↓dJoinN_, ↓gPopAt_, ↓nRange1_, ↓gPop_, ↓refK_ref, ↓dExtN_, ↓gExt_, ↓gSetIx_, ↓itK_some, ↓iRow_, ↓rowIt_tup, ↓rowIt_rl, ↓rowIt_str, ↓iRng1_, ↓iRng2_, ↓iZip_, ↓iEnum_, ↓gNil_, ↓gCons_, ↓gTup_, ↓gTup_ref, ↓gAbs_, ↓gMax2_, ↓gMin2_, ↓gInt_int, ↓gInt_bl, ↓gLe_int, ↓gIsN_non, ↓gIsN_tup, ↓gIsN_int, ↓gIsN_str, ↓gIsN_ref, ↓gIsN_bl, ↓isi_bool_bool, ↓isi_bool_int, ↓isi_int_int, ↓isi_int_bool, ↓isi_tuple_tup, ↓isi_int_tup, ↓isi_bool_tup, ↓isi_str_str, ↓isi_tuple_int, ↓isi_tuple_non, ↓gEq_int, ↓gNe_int, ↓gEq_bl, ↓gNe_bl, ↓gEq_str, ↓gNe_str, ↓gEq_int_non, ↓oNone_, ↓oSome_, ↓gCut_str, ↓gCut_tup, ↓gCut_ref, ↓gCut_rl, ↓rowK_rl, ↓rowK_ref, ↓nCut_, ↓nSorted_, ↓gSorted1_, ↓nRev_, ↓nCatEN_, ↓nRep_, ↓tupK_tup, ↓keysD_two, ↓dtK_dT, ↓gGetT_, ↓gPutT_, ↓nKeysT_, ↓gIsB_, ↓nRepE_, ↓dIxN_, ↓gSumN_, ↓gAllN_, ↓gAnyN_, ↓gAnyI_, ↓gMaxN_, ↓gMax1_rl, ↓gMax1_ref, ↓gMinN_, ↓gMin1_rl, ↓gMin1_ref, ↓gSum_rl, ↓gSum_ref, ↓dChain_, ↓sAug_, ↓gIndex_, ↓dVar_0, ↓dVar_1, ↓dVar_2, ↓dVar_3, ↓dVar_4, ↓dVar_5, ↓dVar_6, ↓dVar_7, ↓dVar_8, ↓dVar_9, ↓dVar_10, ↓dVar_11, ↓dVar_12, ↓dVar_13, ↓dVar_14, ↓dVar_15, ↓dVar_16, ↓dVar_17, ↓dVar_18, ↓dVar_19, ↓dVar_20, ↓dVar_21, ↓dVar_22, ↓dVar_23, ↓dVar_24, ↓dVar_25, ↓sz_0, ↓sz_1, ↓sz_2, ↓sz_3, ↓sz_4, ↓sz_5, ↓sz_6, ↓sz_7, ↓sz_8, ↓sz_9, ↓sz_10, ↓sz_11, ↓sz_12, ↓sz_13, ↓u_dNewT, ↓u_sPutT, ↓u_sSeq, ↓u_sNext, ↓u_sSet, ↓u_sSetN, ↓u_sAsg, ↓u_sIf, ↓u_sRet, ↓u_sRetN, ↓u_sDrop, ↓u_sPar, ↓u_sFor, ↓u_sBreak, ↓u_sCont, ↓u_dC, ↓u_d2, ↓u_d1, ↓u_dTup, ↓u_dNew, ↓u_aNil, ↓u_aCons, ↓u_nLst, ↓u_tAnd', ↓u_tOr', ↓u_tNot', ↓u_dIf, ↓u_gName', ↓u_dCall, ↓u_dB, ↓u_dLenN, ↓u_dTupN, ↓u_dM, ↓u_iNew, ↓u_nLc, ↓u_dN1, ↓u_dCut, ↓u_nCutN, ↓u_nCatNN, ↓u_d2N, ↓u_dNN, ↓u_tYes', ↓u_dS, List.set_cons_zero, List.set_cons_succ, dwipe, ite_true, ite_false, Bool.false_eq_true, Bool.true_eq_false, Bool.not_true, Bool.not_false, beq_self_eq_true, decide_eq_true_eq, Bool.not_eq_true', decide_eq_false_iff_not, mput_same, mput_put, dends, List.length_cons, List.length_nil, true_and, and_true, Nat.reduceAdd, Nat.reduceEqDiff, Int.reduceToNat, ↓x_tabLen, ↓x_fr0, ↓x_fr1, ↓x_kn0, ↓x_kn1, ↓x_map, ↓x_at0, ↓x_at1, ↓x_len, ↓x_row, ↓x_cut, ↓x_tup2, ↓x_tupfr, ↓x_isiT, ↓x_isiK, ↓x_isiF, ↓x_notN, ↓x_getT, ↓x_putT, ↓x_notNM]
          refine ⟨by rw [List.length_map]; omega, hnx2 _ _ ⟨us ++ [c], _, rfl, by simpa using ex, by simp; omega, fun x o hxd h => ?_, by rw [mput_same]; simp, fun i hi' => ?_⟩⟩
          · rw [mput_ne hxd]
            exact (Sub.new hc) _ _ (hk x o hxd h)
          · simp at hi'
            by_cases c' : i < us.length
            · rw [List.getElem_append_left c', mput_ne (hu i c').1]
              exact ⟨(hu i c').1, (Sub.new hc) _ _ (hu i c').2⟩
            · have : i = us.length := by omega
              subst this
              rw [List.getElem_append_right (by omega)]
              simp only [Nat.sub_self, List.getElem_cons_zero]
              refine ⟨cd, ?_⟩
              rw [mput_ne cd, mput_same, List.length_range, List.map_map]
              rfl

/-! ### all_reached -/
def t_all_reached_s6 : DTS :=
  (sSetN 3 (nLc (iRow (dVar 3)) (gName' 6) tYes' (dNew (nLc (iRow (dVar 5)) (gName' 9) tYes' (dB gInt (aCons (dN1 gAnyI (nLc (iZip' (dVar 6) (dVar 9)) (gTup' 2 (gCons' (gName' 10) (gCons' (gName' 11) gNil'))) tYes' (dMul (dVar 10) (dVar 11)) [10, 11])) aNil)) [9])) [6]))
def t_all_reached_s5 : DTS :=
  (sSeq (sSetN 5 (nLc (iRng1' (dVar 1)) (gName' 8) tYes' (dNew (nLc (iRow (dVar 2)) (gName' 6) tYes' (dIx (dVar 6) (dVar 8)) [6])) [8])) t_all_reached_s6)
def t_all_reached_b4 : DTS :=
  (sSeq (sIf (tBool (dN1 gAllN (nLc (iRow (dVar 3)) (gName' 6) tYes' (d2 (gIn true) (dC (.int 0)) (dVar 6)) [6]))) (sRet (dVar 4)) sNext) t_all_reached_s5)
def t_all_reached_s7 : DTS :=
  (sRet (dC .non))
def t_all_reached_s3 : DTS :=
  (sSeq (sFor (iRng2' (dC (.int 1)) (dPlus (dMul (dVar 1) (dVar 1)) (dC (.int 2)))) (gName' 4) t_all_reached_b4) t_all_reached_s7)
def t_all_reached_s2 : DTS :=
  (sSeq (sSet 3 (dVar 2)) t_all_reached_s3)
def t_all_reached_s1 : DTS :=
  (sSeq (sSetN 2 (nLc (iRow (dVar 0)) (gName' 6) tYes' (dNew (nLc (iRow (dVar 6)) (gName' 7) tYes' (dB gInt (aCons (dNe (dVar 7) (dC (.int 0))) aNil)) [7])) [6])) t_all_reached_s2)
def t_all_reached : DTS :=
  (sSeq (sSet 1 (dB gLen (aCons (dVar 0) aNil))) t_all_reached_s1)
def sp_all_reached : DSp := fun ds m R _ => ∃ (t : List (List Int)) (n : Nat), ds = [tabD t] ∧ Tab n t ∧ R (ansN (fstF n t (n * n + 1))) m
theorem len_all_reached : ∀ ds m R E, sp_all_reached ds m R E → ds.length = (["table"] : List Str).length := by
  rintro ds m R E ⟨a, b, rfl, _⟩; rfl
theorem rd_all_reached : ∀ ds m R E, sp_all_reached ds m R E → t_all_reached (dends R) (dstart 12 ds) m := by
  rintro ds m R E ⟨t, n, rfl, hT, hR⟩
  show t_all_reached (dends R) [some (tabD t), none, none, none, none, none, none, none, none, none, none, none] m
  have hsl := sizeLine_eq
  have n12 := hT.n1
  have tl := hT.len
  have nn : n * n ≤ 12 * 12 := Nat.mul_le_mul n12.2 n12.2
  have erow : rowIt m (tabD t) = some ⟨t.map fun r => D.tup (r.map D.int), fun _ => True⟩ := by unfold tabD; rw [rowIt_tup]
  simp only [t_all_reached, x_tabLen, ↓bK_bl, ↓lstK_lst, ↓intK_int, ↓optK_some, ↓tBool_, ↓dAndV_, ↓dOrV_, ↓dNotV_, ↓gI_, ↓gI0_, ↓gAdd_int, ↓gAdd_str, ↓gAdd_tup, ↓gAdd_ref, ↓gNeg_, ↓gIx_tup, ↓gIx_rl, ↓gIx_ref, ↓gIx_str, ↓atK_0, ↓atK_1, ↓atK_2, ↓atK_3, ↓atK_4, ↓atK_5, ↓atK_6, ↓atK_7, ↓atK_last, ↓setK_0, ↓setK_1, ↓setK_2, ↓setK_3, ↓gLen_str, ↓gLen_tup, ↓gLen_rl, ↓gLen_ref, ↓gTupleOf_tup, ↓gTupleOf_rl, ↓gTupleOf_ref, ↓seqK_tup, ↓seqK_rl, ↓seqK_ref, ↓nListOf_, ↓isLst_ref, ↓gAppend_, ↓gInsert_, ↓isStr_str, ↓strK_str, ↓gStrCount_, ↓dJoinN_, ↓gPopAt_, ↓nRange1_, ↓gPop_, ↓refK_ref, ↓dExtN_, ↓gExt_, ↓gSetIx_, ↓itK_some, ↓iRow_, ↓rowIt_tup, ↓rowIt_rl, ↓rowIt_str, ↓iRng1_, ↓iRng2_, ↓iZip_, ↓iEnum_, ↓gNil_, ↓gCons_, ↓gTup_, ↓gTup_ref, ↓gAbs_, ↓gMax2_, ↓gMin2_, ↓gInt_int, ↓gInt_bl, ↓gLe_int, ↓gIsN_non, ↓gIsN_tup, ↓gIsN_int, ↓gIsN_str, ↓gIsN_ref, ↓gIsN_bl, ↓isi_bool_bool, ↓isi_bool_int, ↓isi_int_int, ↓isi_int_bool, ↓isi_tuple_tup, ↓isi_int_tup, ↓isi_bool_tup, ↓isi_str_str, ↓isi_tuple_int, ↓isi_tuple_non, ↓gEq_int, ↓gNe_int, ↓gEq_bl, ↓gNe_bl, ↓gEq_str, ↓gNe_str, ↓gEq_int_non, ↓oNone_, ↓oSome_, ↓gCut_str, ↓gCut_tup, ↓gCut_ref, ↓gCut_rl, ↓rowK_rl, ↓rowK_ref, ↓nCut_, ↓nSorted_, ↓gSorted1_, ↓nRev_, ↓nCatEN_, ↓nRep_, ↓tupK_tup, ↓keysD_two, ↓dtK_dT, ↓gGetT_, ↓gPutT_, ↓nKeysT_, ↓gIsB_, ↓nRepE_, ↓dIxN_, ↓gSumN_, ↓gAllN_, ↓gAnyN_, ↓gAnyI_, ↓gMaxN_, ↓gMax1_rl, ↓gMax1_ref, ↓gMinN_, ↓gMin1_rl, ↓gMin1_ref, ↓gSum_rl, ↓gSum_ref, ↓dChain_, ↓sAug_, ↓gIndex_, ↓dVar_0, ↓dVar_1, ↓dVar_2, ↓dVar_3, ↓dVar_4, ↓dVar_5, ↓dVar_6, ↓dVar_7, ↓dVar_8, ↓dVar_9, ↓dVar_10, ↓dVar_11, ↓dVar_12, ↓dVar_13, ↓dVar_14, ↓dVar_15, ↓dVar_16, ↓dVar_17, ↓dVar_18, ↓dVar_19, ↓dVar_20, ↓dVar_21, ↓dVar_22, ↓dVar_23, ↓dVar_24, ↓dVar_25, ↓sz_0, ↓sz_1, ↓sz_2, ↓sz_3, ↓sz_4, ↓sz_5, ↓sz_6, ↓sz_7, ↓sz_8, ↓sz_9, ↓sz_10, ↓sz_11, ↓sz_12, ↓sz_13, ↓u_dNewT, ↓u_sPutT, ↓u_sSeq, ↓u_sNext, ↓u_sSet, ↓u_sSetN, ↓u_sAsg, ↓u_sIf, ↓u_sRet, ↓u_sRetN, ↓u_sDrop, ↓u_sPar, ↓u_sFor, ↓u_sBreak, ↓u_sCont, ↓u_dC, ↓u_d2, ↓u_d1, ↓u_dTup, ↓u_dNew, ↓u_aNil, ↓u_aCons, ↓u_nLst, ↓u_tAnd', ↓u_tOr', ↓u_tNot', ↓u_dIf, ↓u_gName', ↓u_dCall, ↓u_dB, ↓u_dLenN, ↓u_dTupN, ↓u_dM, ↓u_iNew, ↓u_nLc, ↓u_dN1, ↓u_dCut, ↓u_nCutN, ↓u_nCatNN, ↓u_d2N, ↓u_dNN, ↓u_tYes', ↓u_dS, List.set_cons_zero, List.set_cons_succ, dwipe, ite_true, ite_false, Bool.false_eq_true, Bool.true_eq_false, Bool.not_true, Bool.not_false, beq_self_eq_true, decide_eq_true_eq, Bool.not_eq_true', decide_eq_false_iff_not, mput_same, mput_put, dends, List.length_cons, List.length_nil, true_and, and_true, Nat.reduceAdd, Nat.reduceEqDiff, Int.reduceToNat, ↓x_tabLen, ↓x_fr0, ↓x_fr1, ↓x_kn0, ↓x_kn1, ↓x_map, ↓x_at0, ↓x_at1, ↓x_len, ↓x_row, ↓x_cut, ↓x_tup2, ↓x_tupfr, ↓x_isiT, ↓x_isiK, ↓x_isiF, ↓x_notN, ↓x_getT, ↓x_putT, ↓x_notNM]
  rw [tl]
  simp only [t_all_reached_s1, ↓bK_bl, ↓lstK_lst, ↓intK_int, ↓optK_some, ↓tBool_, ↓dAndV_, ↓dOrV_, ↓dNotV_, ↓gI_, ↓gI0_, ↓gAdd_int, ↓gAdd_str, ↓gAdd_tup, ↓gAdd_ref, ↓gNeg_, ↓gIx_tup, ↓gIx_rl, ↓gIx_ref, ↓gIx_str, ↓atK_0, ↓atK_1, ↓atK_2, ↓atK_3, ↓atK_4, ↓atK_5, ↓atK_6, ↓atK_7, ↓atK_last, ↓setK_0, ↓setK_1, ↓setK_2, ↓setK_3, ↓gLen_str, ↓gLen_tup, ↓gLen_rl, ↓gLen_ref, ↓gTupleOf_tup, ↓gTupleOf_rl, ↓gTupleOf_ref, ↓seqK_tup, ↓seqK_rl, ↓seqK_ref, ↓nListOf_, ↓isLst_ref, ↓gAppend_, ↓gInsert_, ↓isStr_str, ↓strK_str, ↓gStrCount_, ↓dJoinN_, ↓gPopAt_, ↓nRange1_, ↓gPop_, ↓refK_ref, ↓dExtN_, ↓gExt_, ↓gSetIx_, ↓itK_some, ↓iRow_, ↓rowIt_tup, ↓rowIt_rl, ↓rowIt_str, ↓iRng1_, ↓iRng2_, ↓iZip_, ↓iEnum_, ↓gNil_, ↓gCons_, ↓gTup_, ↓gTup_ref, ↓gAbs_, ↓gMax2_, ↓gMin2_, ↓gInt_int, ↓gInt_bl, ↓gLe_int, ↓gIsN_non, ↓gIsN_tup, ↓gIsN_int, ↓gIsN_str, ↓gIsN_ref, ↓gIsN_bl, ↓isi_bool_bool, ↓isi_bool_int, ↓isi_int_int, ↓isi_int_bool, ↓isi_tuple_tup, ↓isi_int_tup, ↓isi_bool_tup, ↓isi_str_str, ↓isi_tuple_int, ↓isi_tuple_non, ↓gEq_int, ↓gNe_int, ↓gEq_bl, ↓gNe_bl, ↓gEq_str, ↓gNe_str, ↓gEq_int_non, ↓oNone_, ↓oSome_, ↓gCut_str, ↓gCut_tup, ↓gCut_ref, ↓gCut_rl, ↓rowK_rl, ↓rowK_ref, ↓nCut_, ↓nSorted_, ↓gSorted1_, ↓nRev_, ↓nCatEN_, ↓nRep_, ↓tupK_tup, ↓keysD_two, ↓dtK_dT, ↓gGetT_, ↓gPutT_, ↓nKeysT_, ↓gIsB_, ↓nRepE_, ↓dIxN_, ↓gSumN_, ↓gAllN_, ↓gAnyN_, ↓gAnyI_, ↓gMaxN_, ↓gMax1_rl, ↓gMax1_ref, ↓gMinN_, ↓gMin1_rl, ↓gMin1_ref, ↓gSum_rl, ↓gSum_ref, ↓dChain_, ↓sAug_, ↓gIndex_, ↓dVar_0, ↓dVar_1, ↓dVar_2, ↓dVar_3, ↓dVar_4, ↓dVar_5, ↓dVar_6, ↓dVar_7, ↓dVar_8, ↓dVar_9, ↓dVar_10, ↓dVar_11, ↓dVar_12, ↓dVar_13, ↓dVar_14, ↓dVar_15, ↓dVar_16, ↓dVar_17, ↓dVar_18, ↓dVar_19, ↓dVar_20, ↓dVar_21, ↓dVar_22, ↓dVar_23, ↓dVar_24, ↓dVar_25, ↓sz_0, ↓sz_1, ↓sz_2, ↓sz_3, ↓sz_4, ↓sz_5, ↓sz_6, ↓sz_7, ↓sz_8, ↓sz_9, ↓sz_10, ↓sz_11, ↓sz_12, ↓sz_13, ↓u_dNewT, ↓u_sPutT, ↓u_sSeq, ↓u_sNext, ↓u_sSet, ↓u_sSetN, ↓u_sAsg, ↓u_sIf, ↓u_sRet, ↓u_sRetN, ↓u_sDrop, ↓u_sPar, ↓u_sFor, ↓u_sBreak, ↓u_sCont, ↓u_dC, ↓u_d2, ↓u_d1, ↓u_dTup, ↓u_dNew, ↓u_aNil, ↓u_aCons, ↓u_nLst, ↓u_tAnd', ↓u_tOr', ↓u_tNot', ↓u_dIf, ↓u_gName', ↓u_dCall, ↓u_dB, ↓u_dLenN, ↓u_dTupN, ↓u_dM, ↓u_iNew, ↓u_nLc, ↓u_dN1, ↓u_dCut, ↓u_nCutN, ↓u_nCatNN, ↓u_d2N, ↓u_dNN, ↓u_tYes', ↓u_dS, List.set_cons_zero, List.set_cons_succ, dwipe, ite_true, ite_false, Bool.false_eq_true, Bool.true_eq_false, Bool.not_true, Bool.not_false, beq_self_eq_true, decide_eq_true_eq, Bool.not_eq_true', decide_eq_false_iff_not, mput_same, mput_put, dends, List.length_cons, List.length_nil, true_and, and_true, Nat.reduceAdd, Nat.reduceEqDiff, Int.reduceToNat, ↓x_tabLen, ↓x_fr0, ↓x_fr1, ↓x_kn0, ↓x_kn1, ↓x_map, ↓x_at0, ↓x_at1, ↓x_len, ↓x_row, ↓x_cut, ↓x_tup2, ↓x_tupfr, ↓x_isiT, ↓x_isiK, ↓x_isiF, ↓x_notN, ↓x_getT, ↓x_putT, ↓x_notNM]
  rw [erow, itK_some]
  refine lc_rows (fun r : List Int => D.tup (r.map D.int)) t (fun i => (List.range n).map (wkB n t 1 i)) (fun _ _ => trivial) (by omega) ?_ ?_
  · intro i hi M acc W hs hacc hW
    obtain ⟨r, h1, h2, h3, h4⟩ := hT.get (i := i) (by omega)
    rw [List.getElem?_eq_getElem hi] at h1
    have er : t[i] = r := by simpa using h1
    rw [er]
    try simp only [↓bK_bl, ↓lstK_lst, ↓intK_int, ↓optK_some, ↓tBool_, ↓dAndV_, ↓dOrV_, ↓dNotV_, ↓gI_, ↓gI0_, ↓gAdd_int, ↓gAdd_str, ↓gAdd_tup, ↓gAdd_ref, ↓gNeg_, ↓gIx_tup, ↓gIx_rl, ↓gIx_ref, ↓gIx_str, ↓atK_0, ↓atK_1, ↓atK_2, ↓atK_3, ↓atK_4, ↓atK_5, ↓atK_6, ↓atK_7, ↓atK_last, ↓setK_0, ↓setK_1, ↓setK_2, ↓setK_3, ↓gLen_str, ↓gLen_tup, ↓gLen_rl, ↓gLen_ref, ↓gTupleOf_tup, ↓gTupleOf_rl, ↓gTupleOf_ref, ↓seqK_tup, ↓seqK_rl, ↓seqK_ref, ↓nListOf_, ↓isLst_ref, ↓gAppend_, ↓gInsert_, ↓isStr_str, ↓strK_str, ↓gStrCount_, ↓dJoinN_, ↓gPopAt_, ↓nRange1_, ↓gPop_, ↓refK_ref, ↓dExtN_, ↓gExt_, ↓gSetIx_, ↓itK_some, ↓iRow_, ↓rowIt_tup, ↓rowIt_rl, ↓rowIt_str, ↓iRng1_, ↓iRng2_, ↓iZip_, ↓iEnum_, ↓gNil_, ↓gCons_, ↓gTup_, ↓gTup_ref, ↓gAbs_, ↓gMax2_, ↓gMin2_, ↓gInt_int, ↓gInt_bl, ↓gLe_int, ↓gIsN_non, ↓gIsN_tup, ↓gIsN_int, ↓gIsN_str, ↓gIsN_ref, ↓gIsN_bl, ↓isi_bool_bool, ↓isi_bool_int, ↓isi_int_int, ↓isi_int_bool, ↓isi_tuple_tup, ↓isi_int_tup, ↓isi_bool_tup, ↓isi_str_str, ↓isi_tuple_int, ↓isi_tuple_non, ↓gEq_int, ↓gNe_int, ↓gEq_bl, ↓gNe_bl, ↓gEq_str, ↓gNe_str, ↓gEq_int_non, ↓oNone_, ↓oSome_, ↓gCut_str, ↓gCut_tup, ↓gCut_ref, ↓gCut_rl, ↓rowK_rl, ↓rowK_ref, ↓nCut_, ↓nSorted_, ↓gSorted1_, ↓nRev_, ↓nCatEN_, ↓nRep_, ↓tupK_tup, ↓keysD_two, ↓dtK_dT, ↓gGetT_, ↓gPutT_, ↓nKeysT_, ↓gIsB_, ↓nRepE_, ↓dIxN_, ↓gSumN_, ↓gAllN_, ↓gAnyN_, ↓gAnyI_, ↓gMaxN_, ↓gMax1_rl, ↓gMax1_ref, ↓gMinN_, ↓gMin1_rl, ↓gMin1_ref, ↓gSum_rl, ↓gSum_ref, ↓dChain_, ↓sAug_, ↓gIndex_, ↓dVar_0, ↓dVar_1, ↓dVar_2, ↓dVar_3, ↓dVar_4, ↓dVar_5, ↓dVar_6, ↓dVar_7, ↓dVar_8, ↓dVar_9, ↓dVar_10, ↓dVar_11, ↓dVar_12, ↓dVar_13, ↓dVar_14, ↓dVar_15, ↓dVar_16, ↓dVar_17, ↓dVar_18, ↓dVar_19, ↓dVar_20, ↓dVar_21, ↓dVar_22, ↓dVar_23, ↓dVar_24, ↓dVar_25, ↓sz_0, ↓sz_1, ↓sz_2, ↓sz_3, ↓sz_4, ↓sz_5, ↓sz_6, ↓sz_7, ↓sz_8, ↓sz_9, ↓sz_10, ↓sz_11, ↓sz_12, ↓sz_13, ↓u_dNewT, ↓u_sPutT, ↓u_sSeq, ↓u_sNext, ↓u_sSet, ↓u_sSetN, ↓u_sAsg, ↓u_sIf, ↓u_sRet, ↓u_sRetN, ↓u_sDrop, ↓u_sPar, ↓u_sFor, ↓u_sBreak, ↓u_sCont, ↓u_dC, ↓u_d2, ↓u_d1, ↓u_dTup, ↓u_dNew, ↓u_aNil, ↓u_aCons, ↓u_nLst, ↓u_tAnd', ↓u_tOr', ↓u_tNot', ↓u_dIf, ↓u_gName', ↓u_dCall, ↓u_dB, ↓u_dLenN, ↓u_dTupN, ↓u_dM, ↓u_iNew, ↓u_nLc, ↓u_dN1, ↓u_dCut, ↓u_nCutN, ↓u_nCatNN, ↓u_d2N, ↓u_dNN, ↓u_tYes', ↓u_dS, List.set_cons_zero, List.set_cons_succ, dwipe, ite_true, ite_false, Bool.false_eq_true, Bool.true_eq_false, Bool.not_true, Bool.not_false, beq_self_eq_true, decide_eq_true_eq, Bool.not_eq_true', decide_eq_false_iff_not, mput_same, mput_put, dends, List.length_cons, List.length_nil, true_and, and_true, Nat.reduceAdd, Nat.reduceEqDiff, Int.reduceToNat, ↓x_tabLen, ↓x_fr0, ↓x_fr1, ↓x_kn0, ↓x_kn1, ↓x_map, ↓x_at0, ↓x_at1, ↓x_len, ↓x_row, ↓x_cut, ↓x_tup2, ↓x_tupfr, ↓x_isiT, ↓x_isiK, ↓x_isiF, ↓x_notN, ↓x_getT, ↓x_putT, ↓x_notNM]
    refine lc_ix D.int r (fun j => D.int (wkB n t 1 i j)) trivial (by omega) ?_ ?_
    · intro j hj acc2 W2 hacc2 hW2
      have ej : r[j] = en t i j := by
        unfold en
        rw [List.getElem?_eq_getElem hi, Option.getD_some, er, List.getElem?_eq_getElem hj, Option.getD_some]
      rw [wkB_one (by omega)] at hW2
      try simp only [↓bK_bl, ↓lstK_lst, ↓intK_int, ↓optK_some, ↓tBool_, ↓dAndV_, ↓dOrV_, ↓dNotV_, ↓gI_, ↓gI0_, ↓gAdd_int, ↓gAdd_str, ↓gAdd_tup, ↓gAdd_ref, ↓gNeg_, ↓gIx_tup, ↓gIx_rl, ↓gIx_ref, ↓gIx_str, ↓atK_0, ↓atK_1, ↓atK_2, ↓atK_3, ↓atK_4, ↓atK_5, ↓atK_6, ↓atK_7, ↓atK_last, ↓setK_0, ↓setK_1, ↓setK_2, ↓setK_3, ↓gLen_str, ↓gLen_tup, ↓gLen_rl, ↓gLen_ref, ↓gTupleOf_tup, ↓gTupleOf_rl, ↓gTupleOf_ref, ↓seqK_tup, ↓seqK_rl, ↓seqK_ref, ↓nListOf_, ↓isLst_ref, ↓gAppend_, ↓gInsert_, ↓isStr_str, ↓strK_str, ↓gStrCount_, ↓dJoinN_, ↓gPopAt_, ↓nRange1_, ↓gPop_, ↓refK_ref, ↓dExtN_, ↓gExt_, ↓gSetIx_, ↓itK_some, ↓iRow_, ↓rowIt_tup, ↓rowIt_rl, ↓rowIt_str, ↓iRng1_, ↓iRng2_, ↓iZip_, ↓iEnum_, ↓gNil_, ↓gCons_, ↓gTup_, ↓gTup_ref, ↓gAbs_, ↓gMax2_, ↓gMin2_, ↓gInt_int, ↓gInt_bl, ↓gLe_int, ↓gIsN_non, ↓gIsN_tup, ↓gIsN_int, ↓gIsN_str, ↓gIsN_ref, ↓gIsN_bl, ↓isi_bool_bool, ↓isi_bool_int, ↓isi_int_int, ↓isi_int_bool, ↓isi_tuple_tup, ↓isi_int_tup, ↓isi_bool_tup, ↓isi_str_str, ↓isi_tuple_int, ↓isi_tuple_non, ↓gEq_int, ↓gNe_int, ↓gEq_bl, ↓gNe_bl, ↓gEq_str, ↓gNe_str, ↓gEq_int_non, ↓oNone_, ↓oSome_, ↓gCut_str, ↓gCut_tup, ↓gCut_ref, ↓gCut_rl, ↓rowK_rl, ↓rowK_ref, ↓nCut_, ↓nSorted_, ↓gSorted1_, ↓nRev_, ↓nCatEN_, ↓nRep_, ↓tupK_tup, ↓keysD_two, ↓dtK_dT, ↓gGetT_, ↓gPutT_, ↓nKeysT_, ↓gIsB_, ↓nRepE_, ↓dIxN_, ↓gSumN_, ↓gAllN_, ↓gAnyN_, ↓gAnyI_, ↓gMaxN_, ↓gMax1_rl, ↓gMax1_ref, ↓gMinN_, ↓gMin1_rl, ↓gMin1_ref, ↓gSum_rl, ↓gSum_ref, ↓dChain_, ↓sAug_, ↓gIndex_, ↓dVar_0, ↓dVar_1, ↓dVar_2, ↓dVar_3, ↓dVar_4, ↓dVar_5, ↓dVar_6, ↓dVar_7, ↓dVar_8, ↓dVar_9, ↓dVar_10, ↓dVar_11, ↓dVar_12, ↓dVar_13, ↓dVar_14, ↓dVar_15, ↓dVar_16, ↓dVar_17, ↓dVar_18, ↓dVar_19, ↓dVar_20, ↓dVar_21, ↓dVar_22, ↓dVar_23, ↓dVar_24, ↓dVar_25, ↓sz_0, ↓sz_1, ↓sz_2, ↓sz_3, ↓sz_4, ↓sz_5, ↓sz_6, ↓sz_7, ↓sz_8, ↓sz_9, ↓sz_10, ↓sz_11, ↓sz_12, ↓sz_13, ↓u_dNewT, ↓u_sPutT, ↓u_sSeq, ↓u_sNext, ↓u_sSet, ↓u_sSetN, ↓u_sAsg, ↓u_sIf, ↓u_sRet, ↓u_sRetN, ↓u_sDrop, ↓u_sPar, ↓u_sFor, ↓u_sBreak, ↓u_sCont, ↓u_dC, ↓u_d2, ↓u_d1, ↓u_dTup, ↓u_dNew, ↓u_aNil, ↓u_aCons, ↓u_nLst, ↓u_tAnd', ↓u_tOr', ↓u_tNot', ↓u_dIf, ↓u_gName', ↓u_dCall, ↓u_dB, ↓u_dLenN, ↓u_dTupN, ↓u_dM, ↓u_iNew, ↓u_nLc, ↓u_dN1, ↓u_dCut, ↓u_nCutN, ↓u_nCatNN, ↓u_d2N, ↓u_dNN, ↓u_tYes', ↓u_dS, List.set_cons_zero, List.set_cons_succ, dwipe, ite_true, ite_false, Bool.false_eq_true, Bool.true_eq_false, Bool.not_true, Bool.not_false, beq_self_eq_true, decide_eq_true_eq, Bool.not_eq_true', decide_eq_false_iff_not, mput_same, mput_put, dends, List.length_cons, List.length_nil, true_and, and_true, Nat.reduceAdd, Nat.reduceEqDiff, Int.reduceToNat, ↓x_tabLen, ↓x_fr0, ↓x_fr1, ↓x_kn0, ↓x_kn1, ↓x_map, ↓x_at0, ↓x_at1, ↓x_len, ↓x_row, ↓x_cut, ↓x_tup2, ↓x_tupfr, ↓x_isiT, ↓x_isiK, ↓x_isiF, ↓x_notN, ↓x_getT, ↓x_putT, ↓x_notNM]
      rw [ej]
      refine ⟨hacc2, ?_⟩
      by_cases c : en t i j = 0
      · rw [if_neg (fun h => h c)]
        rw [if_pos c] at hW2
        exact hW2
      · rw [if_pos c]
        rw [if_neg c] at hW2
        exact hW2
    · intro c hc
      refine ⟨hacc, hW c _ (Sub.new hc) ?_⟩
      rw [mput_same, h2, List.map_map]
      rfl
  · intro us M hs hl hu f hf
    have hSq : Sq n (wkB n t 1) (mput M f (.lst (us.map D.ref))) f := ⟨us, mput_same, by omega, fun i hi => (Sub.new hf) _ _ (hu i hi)⟩
    have hs2 : Sub m (mput M f (.lst (us.map D.ref))) := hs.trans (Sub.new hf)
    generalize mput M f (.lst (us.map D.ref)) = M1 at hSq hs2 ⊢
    clear hu hl hs hf
    simp only [t_all_reached_s2, t_all_reached_s3, ↓bK_bl, ↓lstK_lst, ↓intK_int, ↓optK_some, ↓tBool_, ↓dAndV_, ↓dOrV_, ↓dNotV_, ↓gI_, ↓gI0_, ↓gAdd_int, ↓gAdd_str, ↓gAdd_tup, ↓gAdd_ref, ↓gNeg_, ↓gIx_tup, ↓gIx_rl, ↓gIx_ref, ↓gIx_str, ↓atK_0, ↓atK_1, ↓atK_2, ↓atK_3, ↓atK_4, ↓atK_5, ↓atK_6, ↓atK_7, ↓atK_last, ↓setK_0, ↓setK_1, ↓setK_2, ↓setK_3, ↓gLen_str, ↓gLen_tup, ↓gLen_rl, ↓gLen_ref, ↓gTupleOf_tup, ↓gTupleOf_rl, ↓gTupleOf_ref, ↓seqK_tup, ↓seqK_rl, ↓seqK_ref, ↓nListOf_, ↓isLst_ref, ↓gAppend_, ↓gInsert_, ↓isStr_str, ↓strK_str, ↓gStrCount_, ↓dJoinN_, ↓gPopAt_, ↓nRange1_, ↓gPop_, ↓refK_ref, ↓dExtN_, ↓gExt_, ↓gSetIx_, ↓itK_some, ↓iRow_, ↓rowIt_tup, ↓rowIt_rl, ↓rowIt_str, ↓iRng1_, ↓iRng2_, ↓iZip_, ↓iEnum_, ↓gNil_, ↓gCons_, ↓gTup_, ↓gTup_ref, ↓gAbs_, ↓gMax2_, ↓gMin2_, ↓gInt_int, ↓gInt_bl, ↓gLe_int, ↓gIsN_non, ↓gIsN_tup, ↓gIsN_int, ↓gIsN_str, ↓gIsN_ref, ↓gIsN_bl, ↓isi_bool_bool, ↓isi_bool_int, ↓isi_int_int, ↓isi_int_bool, ↓isi_tuple_tup, ↓isi_int_tup, ↓isi_bool_tup, ↓isi_str_str, ↓isi_tuple_int, ↓isi_tuple_non, ↓gEq_int, ↓gNe_int, ↓gEq_bl, ↓gNe_bl, ↓gEq_str, ↓gNe_str, ↓gEq_int_non, ↓oNone_, ↓oSome_, ↓gCut_str, ↓gCut_tup, ↓gCut_ref, ↓gCut_rl, ↓rowK_rl, ↓rowK_ref, ↓nCut_, ↓nSorted_, ↓gSorted1_, ↓nRev_, ↓nCatEN_, ↓nRep_, ↓tupK_tup, ↓keysD_two, ↓dtK_dT, ↓gGetT_, ↓gPutT_, ↓nKeysT_, ↓gIsB_, ↓nRepE_, ↓dIxN_, ↓gSumN_, ↓gAllN_, ↓gAnyN_, ↓gAnyI_, ↓gMaxN_, ↓gMax1_rl, ↓gMax1_ref, ↓gMinN_, ↓gMin1_rl, ↓gMin1_ref, ↓gSum_rl, ↓gSum_ref, ↓dChain_, ↓sAug_, ↓gIndex_, ↓dVar_0, ↓dVar_1, ↓dVar_2, ↓dVar_3, ↓dVar_4, ↓dVar_5, ↓dVar_6, ↓dVar_7, ↓dVar_8, ↓dVar_9, ↓dVar_10, ↓dVar_11, ↓dVar_12, ↓dVar_13, ↓dVar_14, ↓dVar_15, ↓dVar_16, ↓dVar_17, ↓dVar_18, ↓dVar_19, ↓dVar_20, ↓dVar_21, ↓dVar_22, ↓dVar_23, ↓dVar_24, ↓dVar_25, ↓sz_0, ↓sz_1, ↓sz_2, ↓sz_3, ↓sz_4, ↓sz_5, ↓sz_6, ↓sz_7, ↓sz_8, ↓sz_9, ↓sz_10, ↓sz_11, ↓sz_12, ↓sz_13, ↓u_dNewT, ↓u_sPutT, ↓u_sSeq, ↓u_sNext, ↓u_sSet, ↓u_sSetN, ↓u_sAsg, ↓u_sIf, ↓u_sRet, ↓u_sRetN, ↓u_sDrop, ↓u_sPar, ↓u_sFor, ↓u_sBreak, ↓u_sCont, ↓u_dC, ↓u_d2, ↓u_d1, ↓u_dTup, ↓u_dNew, ↓u_aNil, ↓u_aCons, ↓u_nLst, ↓u_tAnd', ↓u_tOr', ↓u_tNot', ↓u_dIf, ↓u_gName', ↓u_dCall, ↓u_dB, ↓u_dLenN, ↓u_dTupN, ↓u_dM, ↓u_iNew, ↓u_nLc, ↓u_dN1, ↓u_dCut, ↓u_nCutN, ↓u_nCatNN, ↓u_d2N, ↓u_dNN, ↓u_tYes', ↓u_dS, List.set_cons_zero, List.set_cons_succ, dwipe, ite_true, ite_false, Bool.false_eq_true, Bool.true_eq_false, Bool.not_true, Bool.not_false, beq_self_eq_true, decide_eq_true_eq, Bool.not_eq_true', decide_eq_false_iff_not, mput_same, mput_put, dends, List.length_cons, List.length_nil, true_and, and_true, Nat.reduceAdd, Nat.reduceEqDiff, Int.reduceToNat, ↓x_tabLen, ↓x_fr0, ↓x_fr1, ↓x_kn0, ↓x_kn1, ↓x_map, ↓x_at0, ↓x_at1, ↓x_len, ↓x_row, ↓x_cut, ↓x_tup2, ↓x_tupfr, ↓x_isiT, ↓x_isiK, ↓x_isiF, ↓x_notN, ↓x_getT, ↓x_putT, ↓x_notNM]
    have nn' : ((n : Int) * (n : Int)) = ((n * n : Nat) : Int) := by rw [Int.natCast_mul]
    rw [nn']
    refine ⟨mul_r (by omega) (by omega), by omega, ?_⟩
    rw [show (((n * n : Nat) : Int) + 2 - 1).toNat = n * n + 1 by omega]
    refine for_rng 1 (n * n + 1) (fun j r M => ∃ (g : Addr) (q4 q5 : Option D), r = [some (tabD t), some (.int n), some (.ref f), some (.ref g), q4, q5, none, none, none, none, none, none] ∧ Sq n (wkB n t 1) M f ∧ Sq n (wkB n t (j + 1)) M g ∧ Sub m M ∧ ∀ k, k < j → ¬ FullW n (relT t) (k + 1)) ?_ ?_ _ _ ⟨f, _, _, rfl, hSq, hSq, hs2, fun k hk => by omega⟩
    · rintro r M ⟨g, q4, q5, rfl, _, _, hs, hno⟩
      refine ⟨trivial, ?_⟩
      simp only [t_all_reached_s7, ↓bK_bl, ↓lstK_lst, ↓intK_int, ↓optK_some, ↓tBool_, ↓dAndV_, ↓dOrV_, ↓dNotV_, ↓gI_, ↓gI0_, ↓gAdd_int, ↓gAdd_str, ↓gAdd_tup, ↓gAdd_ref, ↓gNeg_, ↓gIx_tup, ↓gIx_rl, ↓gIx_ref, ↓gIx_str, ↓atK_0, ↓atK_1, ↓atK_2, ↓atK_3, ↓atK_4, ↓atK_5, ↓atK_6, ↓atK_7, ↓atK_last, ↓setK_0, ↓setK_1, ↓setK_2, ↓setK_3, ↓gLen_str, ↓gLen_tup, ↓gLen_rl, ↓gLen_ref, ↓gTupleOf_tup, ↓gTupleOf_rl, ↓gTupleOf_ref, ↓seqK_tup, ↓seqK_rl, ↓seqK_ref, ↓nListOf_, ↓isLst_ref, ↓gAppend_, ↓gInsert_, ↓isStr_str, ↓strK_str, ↓gStrCount_, ↓dJoinN_, ↓gPopAt_, ↓nRange1_, ↓gPop_, ↓refK_ref, ↓dExtN_, ↓gExt_, ↓gSetIx_, ↓itK_some, ↓iRow_, ↓rowIt_tup, ↓rowIt_rl, ↓rowIt_str, ↓iRng1_, ↓iRng2_, ↓iZip_, ↓iEnum_, ↓gNil_, ↓gCons_, ↓gTup_, ↓gTup_ref, ↓gAbs_, ↓gMax2_, ↓gMin2_, ↓gInt_int, ↓gInt_bl, ↓gLe_int, ↓gIsN_non, ↓gIsN_tup, ↓gIsN_int, ↓gIsN_str, ↓gIsN_ref, ↓gIsN_bl, ↓isi_bool_bool, ↓isi_bool_int, ↓isi_int_int, ↓isi_int_bool, ↓isi_tuple_tup, ↓isi_int_tup, ↓isi_bool_tup, ↓isi_str_str, ↓isi_tuple_int, ↓isi_tuple_non, ↓gEq_int, ↓gNe_int, ↓gEq_bl, ↓gNe_bl, ↓gEq_str, ↓gNe_str, ↓gEq_int_non, ↓oNone_, ↓oSome_, ↓gCut_str, ↓gCut_tup, ↓gCut_ref, ↓gCut_rl, ↓rowK_rl, ↓rowK_ref, ↓nCut_, ↓nSorted_, ↓gSorted1_, ↓nRev_, ↓nCatEN_, ↓nRep_, ↓tupK_tup, ↓keysD_two, ↓dtK_dT, ↓gGetT_, ↓gPutT_, ↓nKeysT_, ↓gIsB_, ↓nRepE_, ↓dIxN_, ↓gSumN_, ↓gAllN_, ↓gAnyN_, ↓gAnyI_, ↓gMaxN_, ↓gMax1_rl, ↓gMax1_ref, ↓gMinN_, ↓gMin1_rl, ↓gMin1_ref, ↓gSum_rl, ↓gSum_ref, ↓dChain_, ↓sAug_, ↓gIndex_, ↓dVar_0, ↓dVar_1, ↓dVar_2, ↓dVar_3, ↓dVar_4, ↓dVar_5, ↓dVar_6, ↓dVar_7, ↓dVar_8, ↓dVar_9, ↓dVar_10, ↓dVar_11, ↓dVar_12, ↓dVar_13, ↓dVar_14, ↓dVar_15, ↓dVar_16, ↓dVar_17, ↓dVar_18, ↓dVar_19, ↓dVar_20, ↓dVar_21, ↓dVar_22, ↓dVar_23, ↓dVar_24, ↓dVar_25, ↓sz_0, ↓sz_1, ↓sz_2, ↓sz_3, ↓sz_4, ↓sz_5, ↓sz_6, ↓sz_7, ↓sz_8, ↓sz_9, ↓sz_10, ↓sz_11, ↓sz_12, ↓sz_13, ↓u_dNewT, ↓u_sPutT, ↓u_sSeq, ↓u_sNext, ↓u_sSet, ↓u_sSetN, ↓u_sAsg, ↓u_sIf, ↓u_sRet, ↓u_sRetN, ↓u_sDrop, ↓u_sPar, ↓u_sFor, ↓u_sBreak, ↓u_sCont, ↓u_dC, ↓u_d2, ↓u_d1, ↓u_dTup, ↓u_dNew, ↓u_aNil, ↓u_aCons, ↓u_nLst, ↓u_tAnd', ↓u_tOr', ↓u_tNot', ↓u_dIf, ↓u_gName', ↓u_dCall, ↓u_dB, ↓u_dLenN, ↓u_dTupN, ↓u_dM, ↓u_iNew, ↓u_nLc, ↓u_dN1, ↓u_dCut, ↓u_nCutN, ↓u_nCatNN, ↓u_d2N, ↓u_dNN, ↓u_tYes', ↓u_dS, List.set_cons_zero, List.set_cons_succ, dwipe, ite_true, ite_false, Bool.false_eq_true, Bool.true_eq_false, Bool.not_true, Bool.not_false, beq_self_eq_true, decide_eq_true_eq, Bool.not_eq_true', decide_eq_false_iff_not, mput_same, mput_put, dends, List.length_cons, List.length_nil, true_and, and_true, Nat.reduceAdd, Nat.reduceEqDiff, Int.reduceToNat, ↓x_tabLen, ↓x_fr0, ↓x_fr1, ↓x_kn0, ↓x_kn1, ↓x_map, ↓x_at0, ↓x_at1, ↓x_len, ↓x_row, ↓x_cut, ↓x_tup2, ↓x_tupfr, ↓x_isiT, ↓x_isiK, ↓x_isiF, ↓x_notN, ↓x_getT, ↓x_putT, ↓x_notNM]
      rw [fst_none hno] at hR
      exact ⟨m, hs, hR⟩
    · rintro j hj nx hnx r M ⟨g, q4, q5, rfl, hF, hG, hs, hno⟩
      refine ⟨trivial, ?_⟩
      obtain ⟨gs, g1, g2, g3⟩ := id hG
      obtain ⟨fs, f1, f2, f3⟩ := id hF
      simp only [t_all_reached_b4, ↓bK_bl, ↓lstK_lst, ↓intK_int, ↓optK_some, ↓tBool_, ↓dAndV_, ↓dOrV_, ↓dNotV_, ↓gI_, ↓gI0_, ↓gAdd_int, ↓gAdd_str, ↓gAdd_tup, ↓gAdd_ref, ↓gNeg_, ↓gIx_tup, ↓gIx_rl, ↓gIx_ref, ↓gIx_str, ↓atK_0, ↓atK_1, ↓atK_2, ↓atK_3, ↓atK_4, ↓atK_5, ↓atK_6, ↓atK_7, ↓atK_last, ↓setK_0, ↓setK_1, ↓setK_2, ↓setK_3, ↓gLen_str, ↓gLen_tup, ↓gLen_rl, ↓gLen_ref, ↓gTupleOf_tup, ↓gTupleOf_rl, ↓gTupleOf_ref, ↓seqK_tup, ↓seqK_rl, ↓seqK_ref, ↓nListOf_, ↓isLst_ref, ↓gAppend_, ↓gInsert_, ↓isStr_str, ↓strK_str, ↓gStrCount_, ↓dJoinN_, ↓gPopAt_, ↓nRange1_, ↓gPop_, ↓refK_ref, ↓dExtN_, ↓gExt_, ↓gSetIx_, ↓itK_some, ↓iRow_, ↓rowIt_tup, ↓rowIt_rl, ↓rowIt_str, ↓iRng1_, ↓iRng2_, ↓iZip_, ↓iEnum_, ↓gNil_, ↓gCons_, ↓gTup_, ↓gTup_ref, ↓gAbs_, ↓gMax2_, ↓gMin2_, ↓gInt_int, ↓gInt_bl, ↓gLe_int, ↓gIsN_non, ↓gIsN_tup, ↓gIsN_int, ↓gIsN_str, ↓gIsN_ref, ↓gIsN_bl, ↓isi_bool_bool, ↓isi_bool_int, ↓isi_int_int, ↓isi_int_bool, ↓isi_tuple_tup, ↓isi_int_tup, ↓isi_bool_tup, ↓isi_str_str, ↓isi_tuple_int, ↓isi_tuple_non, ↓gEq_int, ↓gNe_int, ↓gEq_bl, ↓gNe_bl, ↓gEq_str, ↓gNe_str, ↓gEq_int_non, ↓oNone_, ↓oSome_, ↓gCut_str, ↓gCut_tup, ↓gCut_ref, ↓gCut_rl, ↓rowK_rl, ↓rowK_ref, ↓nCut_, ↓nSorted_, ↓gSorted1_, ↓nRev_, ↓nCatEN_, ↓nRep_, ↓tupK_tup, ↓keysD_two, ↓dtK_dT, ↓gGetT_, ↓gPutT_, ↓nKeysT_, ↓gIsB_, ↓nRepE_, ↓dIxN_, ↓gSumN_, ↓gAllN_, ↓gAnyN_, ↓gAnyI_, ↓gMaxN_, ↓gMax1_rl, ↓gMax1_ref, ↓gMinN_, ↓gMin1_rl, ↓gMin1_ref, ↓gSum_rl, ↓gSum_ref, ↓dChain_, ↓sAug_, ↓gIndex_, ↓dVar_0, ↓dVar_1, ↓dVar_2, ↓dVar_3, ↓dVar_4, ↓dVar_5, ↓dVar_6, ↓dVar_7, ↓dVar_8, ↓dVar_9, ↓dVar_10, ↓dVar_11, ↓dVar_12, ↓dVar_13, ↓dVar_14, ↓dVar_15, ↓dVar_16, ↓dVar_17, ↓dVar_18, ↓dVar_19, ↓dVar_20, ↓dVar_21, ↓dVar_22, ↓dVar_23, ↓dVar_24, ↓dVar_25, ↓sz_0, ↓sz_1, ↓sz_2, ↓sz_3, ↓sz_4, ↓sz_5, ↓sz_6, ↓sz_7, ↓sz_8, ↓sz_9, ↓sz_10, ↓sz_11, ↓sz_12, ↓sz_13, ↓u_dNewT, ↓u_sPutT, ↓u_sSeq, ↓u_sNext, ↓u_sSet, ↓u_sSetN, ↓u_sAsg, ↓u_sIf, ↓u_sRet, ↓u_sRetN, ↓u_sDrop, ↓u_sPar, ↓u_sFor, ↓u_sBreak, ↓u_sCont, ↓u_dC, ↓u_d2, ↓u_d1, ↓u_dTup, ↓u_dNew, ↓u_aNil, ↓u_aCons, ↓u_nLst, ↓u_tAnd', ↓u_tOr', ↓u_tNot', ↓u_dIf, ↓u_gName', ↓u_dCall, ↓u_dB, ↓u_dLenN, ↓u_dTupN, ↓u_dM, ↓u_iNew, ↓u_nLc, ↓u_dN1, ↓u_dCut, ↓u_nCutN, ↓u_nCatNN, ↓u_d2N, ↓u_dNN, ↓u_tYes', ↓u_dS, List.set_cons_zero, List.set_cons_succ, dwipe, ite_true, ite_false, Bool.false_eq_true, Bool.true_eq_false, Bool.not_true, Bool.not_false, beq_self_eq_true, decide_eq_true_eq, Bool.not_eq_true', decide_eq_false_iff_not, mput_same, mput_put, dends, List.length_cons, List.length_nil, true_and, and_true, Nat.reduceAdd, Nat.reduceEqDiff, Int.reduceToNat, ↓x_tabLen, ↓x_fr0, ↓x_fr1, ↓x_kn0, ↓x_kn1, ↓x_map, ↓x_at0, ↓x_at1, ↓x_len, ↓x_row, ↓x_cut, ↓x_tup2, ↓x_tupfr, ↓x_isiT, ↓x_isiK, ↓x_isiF, ↓x_notN, ↓x_getT, ↓x_putT, ↓x_notNM]
      rw [rowIt_lst g1, itK_some]
      refine lc_ix D.ref gs (fun i => D.bl (!decide ((0 : Int) ∈ (List.range n).map (wkB n t (j + 1) i)))) g1 (by omega) ?_ ?_
      · intro i hi acc W hacc hW
        try simp only [↓bK_bl, ↓lstK_lst, ↓intK_int, ↓optK_some, ↓tBool_, ↓dAndV_, ↓dOrV_, ↓dNotV_, ↓gI_, ↓gI0_, ↓gAdd_int, ↓gAdd_str, ↓gAdd_tup, ↓gAdd_ref, ↓gNeg_, ↓gIx_tup, ↓gIx_rl, ↓gIx_ref, ↓gIx_str, ↓atK_0, ↓atK_1, ↓atK_2, ↓atK_3, ↓atK_4, ↓atK_5, ↓atK_6, ↓atK_7, ↓atK_last, ↓setK_0, ↓setK_1, ↓setK_2, ↓setK_3, ↓gLen_str, ↓gLen_tup, ↓gLen_rl, ↓gLen_ref, ↓gTupleOf_tup, ↓gTupleOf_rl, ↓gTupleOf_ref, ↓seqK_tup, ↓seqK_rl, ↓seqK_ref, ↓nListOf_, ↓isLst_ref, ↓gAppend_, ↓gInsert_, ↓isStr_str, ↓strK_str, ↓gStrCount_, ↓dJoinN_, ↓gPopAt_, ↓nRange1_, ↓gPop_, ↓refK_ref, ↓dExtN_, ↓gExt_, ↓gSetIx_, ↓itK_some, ↓iRow_, ↓rowIt_tup, ↓rowIt_rl, ↓rowIt_str, ↓iRng1_, ↓iRng2_, ↓iZip_, ↓iEnum_, ↓gNil_, ↓gCons_, ↓gTup_, ↓gTup_ref, ↓gAbs_, ↓gMax2_, ↓gMin2_, ↓gInt_int, ↓gInt_bl, ↓gLe_int, ↓gIsN_non, ↓gIsN_tup, ↓gIsN_int, ↓gIsN_str, ↓gIsN_ref, ↓gIsN_bl, ↓isi_bool_bool, ↓isi_bool_int, ↓isi_int_int, ↓isi_int_bool, ↓isi_tuple_tup, ↓isi_int_tup, ↓isi_bool_tup, ↓isi_str_str, ↓isi_tuple_int, ↓isi_tuple_non, ↓gEq_int, ↓gNe_int, ↓gEq_bl, ↓gNe_bl, ↓gEq_str, ↓gNe_str, ↓gEq_int_non, ↓oNone_, ↓oSome_, ↓gCut_str, ↓gCut_tup, ↓gCut_ref, ↓gCut_rl, ↓rowK_rl, ↓rowK_ref, ↓nCut_, ↓nSorted_, ↓gSorted1_, ↓nRev_, ↓nCatEN_, ↓nRep_, ↓tupK_tup, ↓keysD_two, ↓dtK_dT, ↓gGetT_, ↓gPutT_, ↓nKeysT_, ↓gIsB_, ↓nRepE_, ↓dIxN_, ↓gSumN_, ↓gAllN_, ↓gAnyN_, ↓gAnyI_, ↓gMaxN_, ↓gMax1_rl, ↓gMax1_ref, ↓gMinN_, ↓gMin1_rl, ↓gMin1_ref, ↓gSum_rl, ↓gSum_ref, ↓dChain_, ↓sAug_, ↓gIndex_, ↓dVar_0, ↓dVar_1, ↓dVar_2, ↓dVar_3, ↓dVar_4, ↓dVar_5, ↓dVar_6, ↓dVar_7, ↓dVar_8, ↓dVar_9, ↓dVar_10, ↓dVar_11, ↓dVar_12, ↓dVar_13, ↓dVar_14, ↓dVar_15, ↓dVar_16, ↓dVar_17, ↓dVar_18, ↓dVar_19, ↓dVar_20, ↓dVar_21, ↓dVar_22, ↓dVar_23, ↓dVar_24, ↓dVar_25, ↓sz_0, ↓sz_1, ↓sz_2, ↓sz_3, ↓sz_4, ↓sz_5, ↓sz_6, ↓sz_7, ↓sz_8, ↓sz_9, ↓sz_10, ↓sz_11, ↓sz_12, ↓sz_13, ↓u_dNewT, ↓u_sPutT, ↓u_sSeq, ↓u_sNext, ↓u_sSet, ↓u_sSetN, ↓u_sAsg, ↓u_sIf, ↓u_sRet, ↓u_sRetN, ↓u_sDrop, ↓u_sPar, ↓u_sFor, ↓u_sBreak, ↓u_sCont, ↓u_dC, ↓u_d2, ↓u_d1, ↓u_dTup, ↓u_dNew, ↓u_aNil, ↓u_aCons, ↓u_nLst, ↓u_tAnd', ↓u_tOr', ↓u_tNot', ↓u_dIf, ↓u_gName', ↓u_dCall, ↓u_dB, ↓u_dLenN, ↓u_dTupN, ↓u_dM, ↓u_iNew, ↓u_nLc, ↓u_dN1, ↓u_dCut, ↓u_nCutN, ↓u_nCatNN, ↓u_d2N, ↓u_dNN, ↓u_tYes', ↓u_dS, List.set_cons_zero, List.set_cons_succ, dwipe, ite_true, ite_false, Bool.false_eq_true, Bool.true_eq_false, Bool.not_true, Bool.not_false, beq_self_eq_true, decide_eq_true_eq, Bool.not_eq_true', decide_eq_false_iff_not, mput_same, mput_put, dends, List.length_cons, List.length_nil, true_and, and_true, Nat.reduceAdd, Nat.reduceEqDiff, Int.reduceToNat, ↓x_tabLen, ↓x_fr0, ↓x_fr1, ↓x_kn0, ↓x_kn1, ↓x_map, ↓x_at0, ↓x_at1, ↓x_len, ↓x_row, ↓x_cut, ↓x_tup2, ↓x_tupfr, ↓x_isiT, ↓x_isiK, ↓x_isiF, ↓x_notN, ↓x_getT, ↓x_putT, ↓x_notNM]
        refine enc_in_ref enc_int (g3 i hi) ?_
        rw [Bool.true_xor]
        exact ⟨hacc, hW⟩
      · have eb : (List.range gs.length).map (fun i => D.bl (!decide ((0 : Int) ∈ (List.range n).map (wkB n t (j + 1) i)))) = ((List.range n).map fun i => !decide ((0 : Int) ∈ (List.range n).map (wkB n t (j + 1) i))).map D.bl := by
          rw [g2, List.map_map]
          rfl
        rw [eb]
        try simp only [↓bK_bl, ↓lstK_lst, ↓intK_int, ↓optK_some, ↓tBool_, ↓dAndV_, ↓dOrV_, ↓dNotV_, ↓gI_, ↓gI0_, ↓gAdd_int, ↓gAdd_str, ↓gAdd_tup, ↓gAdd_ref, ↓gNeg_, ↓gIx_tup, ↓gIx_rl, ↓gIx_ref, ↓gIx_str, ↓atK_0, ↓atK_1, ↓atK_2, ↓atK_3, ↓atK_4, ↓atK_5, ↓atK_6, ↓atK_7, ↓atK_last, ↓setK_0, ↓setK_1, ↓setK_2, ↓setK_3, ↓gLen_str, ↓gLen_tup, ↓gLen_rl, ↓gLen_ref, ↓gTupleOf_tup, ↓gTupleOf_rl, ↓gTupleOf_ref, ↓seqK_tup, ↓seqK_rl, ↓seqK_ref, ↓nListOf_, ↓isLst_ref, ↓gAppend_, ↓gInsert_, ↓isStr_str, ↓strK_str, ↓gStrCount_, ↓dJoinN_, ↓gPopAt_, ↓nRange1_, ↓gPop_, ↓refK_ref, ↓dExtN_, ↓gExt_, ↓gSetIx_, ↓itK_some, ↓iRow_, ↓rowIt_tup, ↓rowIt_rl, ↓rowIt_str, ↓iRng1_, ↓iRng2_, ↓iZip_, ↓iEnum_, ↓gNil_, ↓gCons_, ↓gTup_, ↓gTup_ref, ↓gAbs_, ↓gMax2_, ↓gMin2_, ↓gInt_int, ↓gInt_bl, ↓gLe_int, ↓gIsN_non, ↓gIsN_tup, ↓gIsN_int, ↓gIsN_str, ↓gIsN_ref, ↓gIsN_bl, ↓isi_bool_bool, ↓isi_bool_int, ↓isi_int_int, ↓isi_int_bool, ↓isi_tuple_tup, ↓isi_int_tup, ↓isi_bool_tup, ↓isi_str_str, ↓isi_tuple_int, ↓isi_tuple_non, ↓gEq_int, ↓gNe_int, ↓gEq_bl, ↓gNe_bl, ↓gEq_str, ↓gNe_str, ↓gEq_int_non, ↓oNone_, ↓oSome_, ↓gCut_str, ↓gCut_tup, ↓gCut_ref, ↓gCut_rl, ↓rowK_rl, ↓rowK_ref, ↓nCut_, ↓nSorted_, ↓gSorted1_, ↓nRev_, ↓nCatEN_, ↓nRep_, ↓tupK_tup, ↓keysD_two, ↓dtK_dT, ↓gGetT_, ↓gPutT_, ↓nKeysT_, ↓gIsB_, ↓nRepE_, ↓dIxN_, ↓gSumN_, ↓gAllN_, ↓gAnyN_, ↓gAnyI_, ↓gMaxN_, ↓gMax1_rl, ↓gMax1_ref, ↓gMinN_, ↓gMin1_rl, ↓gMin1_ref, ↓gSum_rl, ↓gSum_ref, ↓dChain_, ↓sAug_, ↓gIndex_, ↓dVar_0, ↓dVar_1, ↓dVar_2, ↓dVar_3, ↓dVar_4, ↓dVar_5, ↓dVar_6, ↓dVar_7, ↓dVar_8, ↓dVar_9, ↓dVar_10, ↓dVar_11, ↓dVar_12, ↓dVar_13, ↓dVar_14, ↓dVar_15, ↓dVar_16, ↓dVar_17, ↓dVar_18, ↓dVar_19, ↓dVar_20, ↓dVar_21, ↓dVar_22, ↓dVar_23, ↓dVar_24, ↓dVar_25, ↓sz_0, ↓sz_1, ↓sz_2, ↓sz_3, ↓sz_4, ↓sz_5, ↓sz_6, ↓sz_7, ↓sz_8, ↓sz_9, ↓sz_10, ↓sz_11, ↓sz_12, ↓sz_13, ↓u_dNewT, ↓u_sPutT, ↓u_sSeq, ↓u_sNext, ↓u_sSet, ↓u_sSetN, ↓u_sAsg, ↓u_sIf, ↓u_sRet, ↓u_sRetN, ↓u_sDrop, ↓u_sPar, ↓u_sFor, ↓u_sBreak, ↓u_sCont, ↓u_dC, ↓u_d2, ↓u_d1, ↓u_dTup, ↓u_dNew, ↓u_aNil, ↓u_aCons, ↓u_nLst, ↓u_tAnd', ↓u_tOr', ↓u_tNot', ↓u_dIf, ↓u_gName', ↓u_dCall, ↓u_dB, ↓u_dLenN, ↓u_dTupN, ↓u_dM, ↓u_iNew, ↓u_nLc, ↓u_dN1, ↓u_dCut, ↓u_nCutN, ↓u_nCatNN, ↓u_d2N, ↓u_dNN, ↓u_tYes', ↓u_dS, List.set_cons_zero, List.set_cons_succ, dwipe, ite_true, ite_false, Bool.false_eq_true, Bool.true_eq_false, Bool.not_true, Bool.not_false, beq_self_eq_true, decide_eq_true_eq, Bool.not_eq_true', decide_eq_false_iff_not, mput_same, mput_put, dends, List.length_cons, List.length_nil, true_and, and_true, Nat.reduceAdd, Nat.reduceEqDiff, Int.reduceToNat, ↓x_tabLen, ↓x_fr0, ↓x_fr1, ↓x_kn0, ↓x_kn1, ↓x_map, ↓x_at0, ↓x_at1, ↓x_len, ↓x_row, ↓x_cut, ↓x_tup2, ↓x_tupfr, ↓x_isiT, ↓x_isiK, ↓x_isiF, ↓x_notN, ↓x_getT, ↓x_putT, ↓x_notNM]
        rw [boolsOf_bl, optK_some]
        by_cases c : FullW n (relT t) (j + 1)
        · rw [if_pos (full_rows.mpr c)]
          rw [fst_some hj hno c] at hR
          refine ⟨m, hs, ?_⟩
          rw [show (1 : Int) + (j : Int) = (j : Int) + 1 by omega]
          exact hR
        · rw [if_neg (fun h => c (full_rows.mp h))]
          have hno2 : ∀ k, k < j + 1 → ¬ FullW n (relT t) (k + 1) := by
            intro k hk
            by_cases e : k = j
            · subst e
              exact c
            · exact hno k (by omega)
          simp only [t_all_reached_s5, ↓bK_bl, ↓lstK_lst, ↓intK_int, ↓optK_some, ↓tBool_, ↓dAndV_, ↓dOrV_, ↓dNotV_, ↓gI_, ↓gI0_, ↓gAdd_int, ↓gAdd_str, ↓gAdd_tup, ↓gAdd_ref, ↓gNeg_, ↓gIx_tup, ↓gIx_rl, ↓gIx_ref, ↓gIx_str, ↓atK_0, ↓atK_1, ↓atK_2, ↓atK_3, ↓atK_4, ↓atK_5, ↓atK_6, ↓atK_7, ↓atK_last, ↓setK_0, ↓setK_1, ↓setK_2, ↓setK_3, ↓gLen_str, ↓gLen_tup, ↓gLen_rl, ↓gLen_ref, ↓gTupleOf_tup, ↓gTupleOf_rl, ↓gTupleOf_ref, ↓seqK_tup, ↓seqK_rl, ↓seqK_ref, ↓nListOf_, ↓isLst_ref, ↓gAppend_, ↓gInsert_, ↓isStr_str, ↓strK_str, ↓gStrCount_, ↓dJoinN_, ↓gPopAt_, ↓nRange1_, ↓gPop_, ↓refK_ref, ↓dExtN_, ↓gExt_, ↓gSetIx_, ↓itK_some, ↓iRow_, ↓rowIt_tup, ↓rowIt_rl, ↓rowIt_str, ↓iRng1_, ↓iRng2_, ↓iZip_, ↓iEnum_, ↓gNil_, ↓gCons_, ↓gTup_, ↓gTup_ref, ↓gAbs_, ↓gMax2_, ↓gMin2_, ↓gInt_int, ↓gInt_bl, ↓gLe_int, ↓gIsN_non, ↓gIsN_tup, ↓gIsN_int, ↓gIsN_str, ↓gIsN_ref, ↓gIsN_bl, ↓isi_bool_bool, ↓isi_bool_int, ↓isi_int_int, ↓isi_int_bool, ↓isi_tuple_tup, ↓isi_int_tup, ↓isi_bool_tup, ↓isi_str_str, ↓isi_tuple_int, ↓isi_tuple_non, ↓gEq_int, ↓gNe_int, ↓gEq_bl, ↓gNe_bl, ↓gEq_str, ↓gNe_str, ↓gEq_int_non, ↓oNone_, ↓oSome_, ↓gCut_str, ↓gCut_tup, ↓gCut_ref, ↓gCut_rl, ↓rowK_rl, ↓rowK_ref, ↓nCut_, ↓nSorted_, ↓gSorted1_, ↓nRev_, ↓nCatEN_, ↓nRep_, ↓tupK_tup, ↓keysD_two, ↓dtK_dT, ↓gGetT_, ↓gPutT_, ↓nKeysT_, ↓gIsB_, ↓nRepE_, ↓dIxN_, ↓gSumN_, ↓gAllN_, ↓gAnyN_, ↓gAnyI_, ↓gMaxN_, ↓gMax1_rl, ↓gMax1_ref, ↓gMinN_, ↓gMin1_rl, ↓gMin1_ref, ↓gSum_rl, ↓gSum_ref, ↓dChain_, ↓sAug_, ↓gIndex_, ↓dVar_0, ↓dVar_1, ↓dVar_2, ↓dVar_3, ↓dVar_4, ↓dVar_5, ↓dVar_6, ↓dVar_7, ↓dVar_8, ↓dVar_9, ↓dVar_10, ↓dVar_11, ↓dVar_12, ↓dVar_13, ↓dVar_14, ↓dVar_15, ↓dVar_16, ↓dVar_17, ↓dVar_18, ↓dVar_19, ↓dVar_20, ↓dVar_21, ↓dVar_22, ↓dVar_23, ↓dVar_24, ↓dVar_25, ↓sz_0, ↓sz_1, ↓sz_2, ↓sz_3, ↓sz_4, ↓sz_5, ↓sz_6, ↓sz_7, ↓sz_8, ↓sz_9, ↓sz_10, ↓sz_11, ↓sz_12, ↓sz_13, ↓u_dNewT, ↓u_sPutT, ↓u_sSeq, ↓u_sNext, ↓u_sSet, ↓u_sSetN, ↓u_sAsg, ↓u_sIf, ↓u_sRet, ↓u_sRetN, ↓u_sDrop, ↓u_sPar, ↓u_sFor, ↓u_sBreak, ↓u_sCont, ↓u_dC, ↓u_d2, ↓u_d1, ↓u_dTup, ↓u_dNew, ↓u_aNil, ↓u_aCons, ↓u_nLst, ↓u_tAnd', ↓u_tOr', ↓u_tNot', ↓u_dIf, ↓u_gName', ↓u_dCall, ↓u_dB, ↓u_dLenN, ↓u_dTupN, ↓u_dM, ↓u_iNew, ↓u_nLc, ↓u_dN1, ↓u_dCut, ↓u_nCutN, ↓u_nCatNN, ↓u_d2N, ↓u_dNN, ↓u_tYes', ↓u_dS, List.set_cons_zero, List.set_cons_succ, dwipe, ite_true, ite_false, Bool.false_eq_true, Bool.true_eq_false, Bool.not_true, Bool.not_false, beq_self_eq_true, decide_eq_true_eq, Bool.not_eq_true', decide_eq_false_iff_not, mput_same, mput_put, dends, List.length_cons, List.length_nil, true_and, and_true, Nat.reduceAdd, Nat.reduceEqDiff, Int.reduceToNat, ↓x_tabLen, ↓x_fr0, ↓x_fr1, ↓x_kn0, ↓x_kn1, ↓x_map, ↓x_at0, ↓x_at1, ↓x_len, ↓x_row, ↓x_cut, ↓x_tup2, ↓x_tupfr, ↓x_isiT, ↓x_isiK, ↓x_isiF, ↓x_notN, ↓x_getT, ↓x_putT, ↓x_notNM]
          refine ⟨by omega, ?_⟩
          rw [show ((n : Nat) : Int).toNat = n by omega, rng_map]
          refine lc_rows _ (List.range n) (fun k => (List.range n).map fun i => wkB n t 1 i k) (fun _ _ => trivial) (by simp; omega) ?_ ?_
          · intro k hk M2 acc W hs2 hacc hW
            simp only [List.getElem_range]
            simp only [List.length_range] at hk
            try simp only [↓bK_bl, ↓lstK_lst, ↓intK_int, ↓optK_some, ↓tBool_, ↓dAndV_, ↓dOrV_, ↓dNotV_, ↓gI_, ↓gI0_, ↓gAdd_int, ↓gAdd_str, ↓gAdd_tup, ↓gAdd_ref, ↓gNeg_, ↓gIx_tup, ↓gIx_rl, ↓gIx_ref, ↓gIx_str, ↓atK_0, ↓atK_1, ↓atK_2, ↓atK_3, ↓atK_4, ↓atK_5, ↓atK_6, ↓atK_7, ↓atK_last, ↓setK_0, ↓setK_1, ↓setK_2, ↓setK_3, ↓gLen_str, ↓gLen_tup, ↓gLen_rl, ↓gLen_ref, ↓gTupleOf_tup, ↓gTupleOf_rl, ↓gTupleOf_ref, ↓seqK_tup, ↓seqK_rl, ↓seqK_ref, ↓nListOf_, ↓isLst_ref, ↓gAppend_, ↓gInsert_, ↓isStr_str, ↓strK_str, ↓gStrCount_, ↓dJoinN_, ↓gPopAt_, ↓nRange1_, ↓gPop_, ↓refK_ref, ↓dExtN_, ↓gExt_, ↓gSetIx_, ↓itK_some, ↓iRow_, ↓rowIt_tup, ↓rowIt_rl, ↓rowIt_str, ↓iRng1_, ↓iRng2_, ↓iZip_, ↓iEnum_, ↓gNil_, ↓gCons_, ↓gTup_, ↓gTup_ref, ↓gAbs_, ↓gMax2_, ↓gMin2_, ↓gInt_int, ↓gInt_bl, ↓gLe_int, ↓gIsN_non, ↓gIsN_tup, ↓gIsN_int, ↓gIsN_str, ↓gIsN_ref, ↓gIsN_bl, ↓isi_bool_bool, ↓isi_bool_int, ↓isi_int_int, ↓isi_int_bool, ↓isi_tuple_tup, ↓isi_int_tup, ↓isi_bool_tup, ↓isi_str_str, ↓isi_tuple_int, ↓isi_tuple_non, ↓gEq_int, ↓gNe_int, ↓gEq_bl, ↓gNe_bl, ↓gEq_str, ↓gNe_str, ↓gEq_int_non, ↓oNone_, ↓oSome_, ↓gCut_str, ↓gCut_tup, ↓gCut_ref, ↓gCut_rl, ↓rowK_rl, ↓rowK_ref, ↓nCut_, ↓nSorted_, ↓gSorted1_, ↓nRev_, ↓nCatEN_, ↓nRep_, ↓tupK_tup, ↓keysD_two, ↓dtK_dT, ↓gGetT_, ↓gPutT_, ↓nKeysT_, ↓gIsB_, ↓nRepE_, ↓dIxN_, ↓gSumN_, ↓gAllN_, ↓gAnyN_, ↓gAnyI_, ↓gMaxN_, ↓gMax1_rl, ↓gMax1_ref, ↓gMinN_, ↓gMin1_rl, ↓gMin1_ref, ↓gSum_rl, ↓gSum_ref, ↓dChain_, ↓sAug_, ↓gIndex_, ↓dVar_0, ↓dVar_1, ↓dVar_2, ↓dVar_3, ↓dVar_4, ↓dVar_5, ↓dVar_6, ↓dVar_7, ↓dVar_8, ↓dVar_9, ↓dVar_10, ↓dVar_11, ↓dVar_12, ↓dVar_13, ↓dVar_14, ↓dVar_15, ↓dVar_16, ↓dVar_17, ↓dVar_18, ↓dVar_19, ↓dVar_20, ↓dVar_21, ↓dVar_22, ↓dVar_23, ↓dVar_24, ↓dVar_25, ↓sz_0, ↓sz_1, ↓sz_2, ↓sz_3, ↓sz_4, ↓sz_5, ↓sz_6, ↓sz_7, ↓sz_8, ↓sz_9, ↓sz_10, ↓sz_11, ↓sz_12, ↓sz_13, ↓u_dNewT, ↓u_sPutT, ↓u_sSeq, ↓u_sNext, ↓u_sSet, ↓u_sSetN, ↓u_sAsg, ↓u_sIf, ↓u_sRet, ↓u_sRetN, ↓u_sDrop, ↓u_sPar, ↓u_sFor, ↓u_sBreak, ↓u_sCont, ↓u_dC, ↓u_d2, ↓u_d1, ↓u_dTup, ↓u_dNew, ↓u_aNil, ↓u_aCons, ↓u_nLst, ↓u_tAnd', ↓u_tOr', ↓u_tNot', ↓u_dIf, ↓u_gName', ↓u_dCall, ↓u_dB, ↓u_dLenN, ↓u_dTupN, ↓u_dM, ↓u_iNew, ↓u_nLc, ↓u_dN1, ↓u_dCut, ↓u_nCutN, ↓u_nCatNN, ↓u_d2N, ↓u_dNN, ↓u_tYes', ↓u_dS, List.set_cons_zero, List.set_cons_succ, dwipe, ite_true, ite_false, Bool.false_eq_true, Bool.true_eq_false, Bool.not_true, Bool.not_false, beq_self_eq_true, decide_eq_true_eq, Bool.not_eq_true', decide_eq_false_iff_not, mput_same, mput_put, dends, List.length_cons, List.length_nil, true_and, and_true, Nat.reduceAdd, Nat.reduceEqDiff, Int.reduceToNat, ↓x_tabLen, ↓x_fr0, ↓x_fr1, ↓x_kn0, ↓x_kn1, ↓x_map, ↓x_at0, ↓x_at1, ↓x_len, ↓x_row, ↓x_cut, ↓x_tup2, ↓x_tupfr, ↓x_isiT, ↓x_isiK, ↓x_isiF, ↓x_notN, ↓x_getT, ↓x_putT, ↓x_notNM]
            have f1' := hs2 _ _ f1
            rw [rowIt_lst f1', itK_some]
            refine lc_ix D.ref fs (fun i => D.int (wkB n t 1 i k)) f1' (by omega) ?_ ?_
            · intro i hi acc2 W2 hacc2 hW2
              simp only [hs2 _ _ (f3 i hi), ↓bK_bl, ↓lstK_lst, ↓intK_int, ↓optK_some, ↓tBool_, ↓dAndV_, ↓dOrV_, ↓dNotV_, ↓gI_, ↓gI0_, ↓gAdd_int, ↓gAdd_str, ↓gAdd_tup, ↓gAdd_ref, ↓gNeg_, ↓gIx_tup, ↓gIx_rl, ↓gIx_ref, ↓gIx_str, ↓atK_0, ↓atK_1, ↓atK_2, ↓atK_3, ↓atK_4, ↓atK_5, ↓atK_6, ↓atK_7, ↓atK_last, ↓setK_0, ↓setK_1, ↓setK_2, ↓setK_3, ↓gLen_str, ↓gLen_tup, ↓gLen_rl, ↓gLen_ref, ↓gTupleOf_tup, ↓gTupleOf_rl, ↓gTupleOf_ref, ↓seqK_tup, ↓seqK_rl, ↓seqK_ref, ↓nListOf_, ↓isLst_ref, ↓gAppend_, ↓gInsert_, ↓isStr_str, ↓strK_str, ↓gStrCount_, ↓dJoinN_, ↓gPopAt_, ↓nRange1_, ↓gPop_, ↓refK_ref, ↓dExtN_, ↓gExt_, ↓gSetIx_, ↓itK_some, ↓iRow_, ↓rowIt_tup, ↓rowIt_rl, ↓rowIt_str, ↓iRng1_, ↓iRng2_, ↓iZip_, ↓iEnum_, ↓gNil_, ↓gCons_, ↓gTup_, ↓gTup_ref, ↓gAbs_, ↓gMax2_, ↓gMin2_, ↓gInt_int, ↓gInt_bl, ↓gLe_int, ↓gIsN_non, ↓gIsN_tup, ↓gIsN_int, ↓gIsN_str, ↓gIsN_ref, ↓gIsN_bl, ↓isi_bool_bool, ↓isi_bool_int, ↓isi_int_int, ↓isi_int_bool, ↓isi_tuple_tup, ↓isi_int_tup, ↓isi_bool_tup, ↓isi_str_str, ↓isi_tuple_int, ↓isi_tuple_non, ↓gEq_int, ↓gNe_int, ↓gEq_bl, ↓gNe_bl, ↓gEq_str, ↓gNe_str, ↓gEq_int_non, ↓oNone_, ↓oSome_, ↓gCut_str, ↓gCut_tup, ↓gCut_ref, ↓gCut_rl, ↓rowK_rl, ↓rowK_ref, ↓nCut_, ↓nSorted_, ↓gSorted1_, ↓nRev_, ↓nCatEN_, ↓nRep_, ↓tupK_tup, ↓keysD_two, ↓dtK_dT, ↓gGetT_, ↓gPutT_, ↓nKeysT_, ↓gIsB_, ↓nRepE_, ↓dIxN_, ↓gSumN_, ↓gAllN_, ↓gAnyN_, ↓gAnyI_, ↓gMaxN_, ↓gMax1_rl, ↓gMax1_ref, ↓gMinN_, ↓gMin1_rl, ↓gMin1_ref, ↓gSum_rl, ↓gSum_ref, ↓dChain_, ↓sAug_, ↓gIndex_, ↓dVar_0, ↓dVar_1, ↓dVar_2, ↓dVar_3, ↓dVar_4, ↓dVar_5, ↓dVar_6, ↓dVar_7, ↓dVar_8, ↓dVar_9, ↓dVar_10, ↓dVar_11, ↓dVar_12, ↓dVar_13, ↓dVar_14, ↓dVar_15, ↓dVar_16, ↓dVar_17, ↓dVar_18, ↓dVar_19, ↓dVar_20, ↓dVar_21, ↓dVar_22, ↓dVar_23, ↓dVar_24, ↓dVar_25, ↓sz_0, ↓sz_1, ↓sz_2, ↓sz_3, ↓sz_4, ↓sz_5, ↓sz_6, ↓sz_7, ↓sz_8, ↓sz_9, ↓sz_10, ↓sz_11, ↓sz_12, ↓sz_13, ↓u_dNewT, ↓u_sPutT, ↓u_sSeq, ↓u_sNext, ↓u_sSet, ↓u_sSetN, ↓u_sAsg, ↓u_sIf, ↓u_sRet, ↓u_sRetN, ↓u_sDrop, ↓u_sPar, ↓u_sFor, ↓u_sBreak, ↓u_sCont, ↓u_dC, ↓u_d2, ↓u_d1, ↓u_dTup, ↓u_dNew, ↓u_aNil, ↓u_aCons, ↓u_nLst, ↓u_tAnd', ↓u_tOr', ↓u_tNot', ↓u_dIf, ↓u_gName', ↓u_dCall, ↓u_dB, ↓u_dLenN, ↓u_dTupN, ↓u_dM, ↓u_iNew, ↓u_nLc, ↓u_dN1, ↓u_dCut, ↓u_nCutN, ↓u_nCatNN, ↓u_d2N, ↓u_dNN, ↓u_tYes', ↓u_dS, List.set_cons_zero, List.set_cons_succ, dwipe, ite_true, ite_false, Bool.false_eq_true, Bool.true_eq_false, Bool.not_true, Bool.not_false, beq_self_eq_true, decide_eq_true_eq, Bool.not_eq_true', decide_eq_false_iff_not, mput_same, mput_put, dends, List.length_cons, List.length_nil, true_and, and_true, Nat.reduceAdd, Nat.reduceEqDiff, Int.reduceToNat, ↓x_tabLen, ↓x_fr0, ↓x_fr1, ↓x_kn0, ↓x_kn1, ↓x_map, ↓x_at0, ↓x_at1, ↓x_len, ↓x_row, ↓x_cut, ↓x_tup2, ↓x_tupfr, ↓x_isiT, ↓x_isiK, ↓x_isiF, ↓x_notN, ↓x_getT, ↓x_putT, ↓x_notNM]
              refine atK_of (n := k) (x := .int (wkB n t 1 i k)) rfl ?_ ⟨hacc2, hW2⟩
              rw [List.getElem?_map, List.getElem?_map, List.getElem?_range (by omega)]
              rfl
            · intro c0 hc0
              refine ⟨hacc, hW c0 _ (Sub.new hc0) ?_⟩
              rw [mput_same, f2, List.map_map]
              rfl
          · intro cs M2 hs2 hcl hcs c0 hc0
            rw [List.length_range] at hcl
            have hC : mput M2 c0 (.lst (cs.map D.ref)) c0 = some (.lst (cs.map D.ref)) := mput_same
            have hs3 : Sub M (mput M2 c0 (.lst (cs.map D.ref))) := hs2.trans (Sub.new hc0)
            have hcs3 : ∀ (i : Nat) (hi : i < cs.length), mput M2 c0 (.lst (cs.map D.ref)) cs[i] = some (.lst (((List.range n).map fun q => wkB n t 1 q i).map D.int)) := fun i hi => (Sub.new hc0) _ _ (hcs i hi)
            generalize mput M2 c0 (.lst (cs.map D.ref)) = M3 at hC hs3 hcs3 ⊢
            clear hcs hc0 hs2
            simp only [t_all_reached_s6, ↓bK_bl, ↓lstK_lst, ↓intK_int, ↓optK_some, ↓tBool_, ↓dAndV_, ↓dOrV_, ↓dNotV_, ↓gI_, ↓gI0_, ↓gAdd_int, ↓gAdd_str, ↓gAdd_tup, ↓gAdd_ref, ↓gNeg_, ↓gIx_tup, ↓gIx_rl, ↓gIx_ref, ↓gIx_str, ↓atK_0, ↓atK_1, ↓atK_2, ↓atK_3, ↓atK_4, ↓atK_5, ↓atK_6, ↓atK_7, ↓atK_last, ↓setK_0, ↓setK_1, ↓setK_2, ↓setK_3, ↓gLen_str, ↓gLen_tup, ↓gLen_rl, ↓gLen_ref, ↓gTupleOf_tup, ↓gTupleOf_rl, ↓gTupleOf_ref, ↓seqK_tup, ↓seqK_rl, ↓seqK_ref, ↓nListOf_, ↓isLst_ref, ↓gAppend_, ↓gInsert_, ↓isStr_str, ↓strK_str, ↓gStrCount_, ↓dJoinN_, ↓gPopAt_, ↓nRange1_, ↓gPop_, ↓refK_ref, ↓dExtN_, ↓gExt_, ↓gSetIx_, ↓itK_some, ↓iRow_, ↓rowIt_tup, ↓rowIt_rl, ↓rowIt_str, ↓iRng1_, ↓iRng2_, ↓iZip_, ↓iEnum_, ↓gNil_, ↓gCons_, ↓gTup_, ↓gTup_ref, ↓gAbs_, ↓gMax2_, ↓gMin2_, ↓gInt_int, ↓gInt_bl, ↓gLe_int, ↓gIsN_non, ↓gIsN_tup, ↓gIsN_int, ↓gIsN_str, ↓gIsN_ref, ↓gIsN_bl, ↓isi_bool_bool, ↓isi_bool_int, ↓isi_int_int, ↓isi_int_bool, ↓isi_tuple_tup, ↓isi_int_tup, ↓isi_bool_tup, ↓isi_str_str, ↓isi_tuple_int, ↓isi_tuple_non, ↓gEq_int, ↓gNe_int, ↓gEq_bl, ↓gNe_bl, ↓gEq_str, ↓gNe_str, ↓gEq_int_non, ↓oNone_, ↓oSome_, ↓gCut_str, ↓gCut_tup, ↓gCut_ref, ↓gCut_rl, ↓rowK_rl, ↓rowK_ref, ↓nCut_, ↓nSorted_, ↓gSorted1_, ↓nRev_, ↓nCatEN_, ↓nRep_, ↓tupK_tup, ↓keysD_two, ↓dtK_dT, ↓gGetT_, ↓gPutT_, ↓nKeysT_, ↓gIsB_, ↓nRepE_, ↓dIxN_, ↓gSumN_, ↓gAllN_, ↓gAnyN_, ↓gAnyI_, ↓gMaxN_, ↓gMax1_rl, ↓gMax1_ref, ↓gMinN_, ↓gMin1_rl, ↓gMin1_ref, ↓gSum_rl, ↓gSum_ref, ↓dChain_, ↓sAug_, ↓gIndex_, ↓dVar_0, ↓dVar_1, ↓dVar_2, ↓dVar_3, ↓dVar_4, ↓dVar_5, ↓dVar_6, ↓dVar_7, ↓dVar_8, ↓dVar_9, ↓dVar_10, ↓dVar_11, ↓dVar_12, ↓dVar_13, ↓dVar_14, ↓dVar_15, ↓dVar_16, ↓dVar_17, ↓dVar_18, ↓dVar_19, ↓dVar_20, ↓dVar_21, ↓dVar_22, ↓dVar_23, ↓dVar_24, ↓dVar_25, ↓sz_0, ↓sz_1, ↓sz_2, ↓sz_3, ↓sz_4, ↓sz_5, ↓sz_6, ↓sz_7, ↓sz_8, ↓sz_9, ↓sz_10, ↓sz_11, ↓sz_12, ↓sz_13, ↓u_dNewT, ↓u_sPutT, ↓u_sSeq, ↓u_sNext, ↓u_sSet, ↓u_sSetN, ↓u_sAsg, ↓u_sIf, ↓u_sRet, ↓u_sRetN, ↓u_sDrop, ↓u_sPar, ↓u_sFor, ↓u_sBreak, ↓u_sCont, ↓u_dC, ↓u_d2, ↓u_d1, ↓u_dTup, ↓u_dNew, ↓u_aNil, ↓u_aCons, ↓u_nLst, ↓u_tAnd', ↓u_tOr', ↓u_tNot', ↓u_dIf, ↓u_gName', ↓u_dCall, ↓u_dB, ↓u_dLenN, ↓u_dTupN, ↓u_dM, ↓u_iNew, ↓u_nLc, ↓u_dN1, ↓u_dCut, ↓u_nCutN, ↓u_nCatNN, ↓u_d2N, ↓u_dNN, ↓u_tYes', ↓u_dS, List.set_cons_zero, List.set_cons_succ, dwipe, ite_true, ite_false, Bool.false_eq_true, Bool.true_eq_false, Bool.not_true, Bool.not_false, beq_self_eq_true, decide_eq_true_eq, Bool.not_eq_true', decide_eq_false_iff_not, mput_same, mput_put, dends, List.length_cons, List.length_nil, true_and, and_true, Nat.reduceAdd, Nat.reduceEqDiff, Int.reduceToNat, ↓x_tabLen, ↓x_fr0, ↓x_fr1, ↓x_kn0, ↓x_kn1, ↓x_map, ↓x_at0, ↓x_at1, ↓x_len, ↓x_row, ↓x_cut, ↓x_tup2, ↓x_tupfr, ↓x_isiT, ↓x_isiK, ↓x_isiF, ↓x_notN, ↓x_getT, ↓x_putT, ↓x_notNM]
            have g1' := hs3 _ _ g1
            rw [rowIt_lst g1', itK_some]
            refine lc_rows D.ref gs (fun i => (List.range n).map (wkB n t (j + 2) i)) (fun M' h => h _ _ g1') (by omega) ?_ ?_
            · intro i hi M4 acc W hs4 hacc hW
              try simp only [↓bK_bl, ↓lstK_lst, ↓intK_int, ↓optK_some, ↓tBool_, ↓dAndV_, ↓dOrV_, ↓dNotV_, ↓gI_, ↓gI0_, ↓gAdd_int, ↓gAdd_str, ↓gAdd_tup, ↓gAdd_ref, ↓gNeg_, ↓gIx_tup, ↓gIx_rl, ↓gIx_ref, ↓gIx_str, ↓atK_0, ↓atK_1, ↓atK_2, ↓atK_3, ↓atK_4, ↓atK_5, ↓atK_6, ↓atK_7, ↓atK_last, ↓setK_0, ↓setK_1, ↓setK_2, ↓setK_3, ↓gLen_str, ↓gLen_tup, ↓gLen_rl, ↓gLen_ref, ↓gTupleOf_tup, ↓gTupleOf_rl, ↓gTupleOf_ref, ↓seqK_tup, ↓seqK_rl, ↓seqK_ref, ↓nListOf_, ↓isLst_ref, ↓gAppend_, ↓gInsert_, ↓isStr_str, ↓strK_str, ↓gStrCount_, ↓dJoinN_, ↓gPopAt_, ↓nRange1_, ↓gPop_, ↓refK_ref, ↓dExtN_, ↓gExt_, ↓gSetIx_, ↓itK_some, ↓iRow_, ↓rowIt_tup, ↓rowIt_rl, ↓rowIt_str, ↓iRng1_, ↓iRng2_, ↓iZip_, ↓iEnum_, ↓gNil_, ↓gCons_, ↓gTup_, ↓gTup_ref, ↓gAbs_, ↓gMax2_, ↓gMin2_, ↓gInt_int, ↓gInt_bl, ↓gLe_int, ↓gIsN_non, ↓gIsN_tup, ↓gIsN_int, ↓gIsN_str, ↓gIsN_ref, ↓gIsN_bl, ↓isi_bool_bool, ↓isi_bool_int, ↓isi_int_int, ↓isi_int_bool, ↓isi_tuple_tup, ↓isi_int_tup, ↓isi_bool_tup, ↓isi_str_str, ↓isi_tuple_int, ↓isi_tuple_non, ↓gEq_int, ↓gNe_int, ↓gEq_bl, ↓gNe_bl, ↓gEq_str, ↓gNe_str, ↓gEq_int_non, ↓oNone_, ↓oSome_, ↓gCut_str, ↓gCut_tup, ↓gCut_ref, ↓gCut_rl, ↓rowK_rl, ↓rowK_ref, ↓nCut_, ↓nSorted_, ↓gSorted1_, ↓nRev_, ↓nCatEN_, ↓nRep_, ↓tupK_tup, ↓keysD_two, ↓dtK_dT, ↓gGetT_, ↓gPutT_, ↓nKeysT_, ↓gIsB_, ↓nRepE_, ↓dIxN_, ↓gSumN_, ↓gAllN_, ↓gAnyN_, ↓gAnyI_, ↓gMaxN_, ↓gMax1_rl, ↓gMax1_ref, ↓gMinN_, ↓gMin1_rl, ↓gMin1_ref, ↓gSum_rl, ↓gSum_ref, ↓dChain_, ↓sAug_, ↓gIndex_, ↓dVar_0, ↓dVar_1, ↓dVar_2, ↓dVar_3, ↓dVar_4, ↓dVar_5, ↓dVar_6, ↓dVar_7, ↓dVar_8, ↓dVar_9, ↓dVar_10, ↓dVar_11, ↓dVar_12, ↓dVar_13, ↓dVar_14, ↓dVar_15, ↓dVar_16, ↓dVar_17, ↓dVar_18, ↓dVar_19, ↓dVar_20, ↓dVar_21, ↓dVar_22, ↓dVar_23, ↓dVar_24, ↓dVar_25, ↓sz_0, ↓sz_1, ↓sz_2, ↓sz_3, ↓sz_4, ↓sz_5, ↓sz_6, ↓sz_7, ↓sz_8, ↓sz_9, ↓sz_10, ↓sz_11, ↓sz_12, ↓sz_13, ↓u_dNewT, ↓u_sPutT, ↓u_sSeq, ↓u_sNext, ↓u_sSet, ↓u_sSetN, ↓u_sAsg, ↓u_sIf, ↓u_sRet, ↓u_sRetN, ↓u_sDrop, ↓u_sPar, ↓u_sFor, ↓u_sBreak, ↓u_sCont, ↓u_dC, ↓u_d2, ↓u_d1, ↓u_dTup, ↓u_dNew, ↓u_aNil, ↓u_aCons, ↓u_nLst, ↓u_tAnd', ↓u_tOr', ↓u_tNot', ↓u_dIf, ↓u_gName', ↓u_dCall, ↓u_dB, ↓u_dLenN, ↓u_dTupN, ↓u_dM, ↓u_iNew, ↓u_nLc, ↓u_dN1, ↓u_dCut, ↓u_nCutN, ↓u_nCatNN, ↓u_d2N, ↓u_dNN, ↓u_tYes', ↓u_dS, List.set_cons_zero, List.set_cons_succ, dwipe, ite_true, ite_false, Bool.false_eq_true, Bool.true_eq_false, Bool.not_true, Bool.not_false, beq_self_eq_true, decide_eq_true_eq, Bool.not_eq_true', decide_eq_false_iff_not, mput_same, mput_put, dends, List.length_cons, List.length_nil, true_and, and_true, Nat.reduceAdd, Nat.reduceEqDiff, Int.reduceToNat, ↓x_tabLen, ↓x_fr0, ↓x_fr1, ↓x_kn0, ↓x_kn1, ↓x_map, ↓x_at0, ↓x_at1, ↓x_len, ↓x_row, ↓x_cut, ↓x_tup2, ↓x_tupfr, ↓x_isiT, ↓x_isiK, ↓x_isiF, ↓x_notN, ↓x_getT, ↓x_putT, ↓x_notNM]
              have hC4 := hs4 _ _ hC
              rw [rowIt_lst hC4, itK_some]
              refine lc_ix D.ref cs (fun k => D.int (wkB n t (j + 2) i k)) hC4 (by omega) ?_ ?_
              · intro k hk acc2 W2 hacc2 hW2
                have hrow := hs4 _ _ (hs3 _ _ (g3 i hi))
                have hcol := hs4 _ _ (hcs3 k hk)
                try simp only [↓bK_bl, ↓lstK_lst, ↓intK_int, ↓optK_some, ↓tBool_, ↓dAndV_, ↓dOrV_, ↓dNotV_, ↓gI_, ↓gI0_, ↓gAdd_int, ↓gAdd_str, ↓gAdd_tup, ↓gAdd_ref, ↓gNeg_, ↓gIx_tup, ↓gIx_rl, ↓gIx_ref, ↓gIx_str, ↓atK_0, ↓atK_1, ↓atK_2, ↓atK_3, ↓atK_4, ↓atK_5, ↓atK_6, ↓atK_7, ↓atK_last, ↓setK_0, ↓setK_1, ↓setK_2, ↓setK_3, ↓gLen_str, ↓gLen_tup, ↓gLen_rl, ↓gLen_ref, ↓gTupleOf_tup, ↓gTupleOf_rl, ↓gTupleOf_ref, ↓seqK_tup, ↓seqK_rl, ↓seqK_ref, ↓nListOf_, ↓isLst_ref, ↓gAppend_, ↓gInsert_, ↓isStr_str, ↓strK_str, ↓gStrCount_, ↓dJoinN_, ↓gPopAt_, ↓nRange1_, ↓gPop_, ↓refK_ref, ↓dExtN_, ↓gExt_, ↓gSetIx_, ↓itK_some, ↓iRow_, ↓rowIt_tup, ↓rowIt_rl, ↓rowIt_str, ↓iRng1_, ↓iRng2_, ↓iZip_, ↓iEnum_, ↓gNil_, ↓gCons_, ↓gTup_, ↓gTup_ref, ↓gAbs_, ↓gMax2_, ↓gMin2_, ↓gInt_int, ↓gInt_bl, ↓gLe_int, ↓gIsN_non, ↓gIsN_tup, ↓gIsN_int, ↓gIsN_str, ↓gIsN_ref, ↓gIsN_bl, ↓isi_bool_bool, ↓isi_bool_int, ↓isi_int_int, ↓isi_int_bool, ↓isi_tuple_tup, ↓isi_int_tup, ↓isi_bool_tup, ↓isi_str_str, ↓isi_tuple_int, ↓isi_tuple_non, ↓gEq_int, ↓gNe_int, ↓gEq_bl, ↓gNe_bl, ↓gEq_str, ↓gNe_str, ↓gEq_int_non, ↓oNone_, ↓oSome_, ↓gCut_str, ↓gCut_tup, ↓gCut_ref, ↓gCut_rl, ↓rowK_rl, ↓rowK_ref, ↓nCut_, ↓nSorted_, ↓gSorted1_, ↓nRev_, ↓nCatEN_, ↓nRep_, ↓tupK_tup, ↓keysD_two, ↓dtK_dT, ↓gGetT_, ↓gPutT_, ↓nKeysT_, ↓gIsB_, ↓nRepE_, ↓dIxN_, ↓gSumN_, ↓gAllN_, ↓gAnyN_, ↓gAnyI_, ↓gMaxN_, ↓gMax1_rl, ↓gMax1_ref, ↓gMinN_, ↓gMin1_rl, ↓gMin1_ref, ↓gSum_rl, ↓gSum_ref, ↓dChain_, ↓sAug_, ↓gIndex_, ↓dVar_0, ↓dVar_1, ↓dVar_2, ↓dVar_3, ↓dVar_4, ↓dVar_5, ↓dVar_6, ↓dVar_7, ↓dVar_8, ↓dVar_9, ↓dVar_10, ↓dVar_11, ↓dVar_12, ↓dVar_13, ↓dVar_14, ↓dVar_15, ↓dVar_16, ↓dVar_17, ↓dVar_18, ↓dVar_19, ↓dVar_20, ↓dVar_21, ↓dVar_22, ↓dVar_23, ↓dVar_24, ↓dVar_25, ↓sz_0, ↓sz_1, ↓sz_2, ↓sz_3, ↓sz_4, ↓sz_5, ↓sz_6, ↓sz_7, ↓sz_8, ↓sz_9, ↓sz_10, ↓sz_11, ↓sz_12, ↓sz_13, ↓u_dNewT, ↓u_sPutT, ↓u_sSeq, ↓u_sNext, ↓u_sSet, ↓u_sSetN, ↓u_sAsg, ↓u_sIf, ↓u_sRet, ↓u_sRetN, ↓u_sDrop, ↓u_sPar, ↓u_sFor, ↓u_sBreak, ↓u_sCont, ↓u_dC, ↓u_d2, ↓u_d1, ↓u_dTup, ↓u_dNew, ↓u_aNil, ↓u_aCons, ↓u_nLst, ↓u_tAnd', ↓u_tOr', ↓u_tNot', ↓u_dIf, ↓u_gName', ↓u_dCall, ↓u_dB, ↓u_dLenN, ↓u_dTupN, ↓u_dM, ↓u_iNew, ↓u_nLc, ↓u_dN1, ↓u_dCut, ↓u_nCutN, ↓u_nCatNN, ↓u_d2N, ↓u_dNN, ↓u_tYes', ↓u_dS, List.set_cons_zero, List.set_cons_succ, dwipe, ite_true, ite_false, Bool.false_eq_true, Bool.true_eq_false, Bool.not_true, Bool.not_false, beq_self_eq_true, decide_eq_true_eq, Bool.not_eq_true', decide_eq_false_iff_not, mput_same, mput_put, dends, List.length_cons, List.length_nil, true_and, and_true, Nat.reduceAdd, Nat.reduceEqDiff, Int.reduceToNat, ↓x_tabLen, ↓x_fr0, ↓x_fr1, ↓x_kn0, ↓x_kn1, ↓x_map, ↓x_at0, ↓x_at1, ↓x_len, ↓x_row, ↓x_cut, ↓x_tup2, ↓x_tupfr, ↓x_isiT, ↓x_isiK, ↓x_isiF, ↓x_notN, ↓x_getT, ↓x_putT, ↓x_notNM]
                rw [rowIt_lst hrow, itK_some, rowIt_lst hcol, itK_some, zip_map2]
                refine lc_map _ (fun _ => true) (fun p => D.int (p.1 * p.2)) ⟨hrow, hcol⟩ _ _ (by simp; omega) ?_ ?_
                · intro p hp acc3 W3 hacc3 hW3
                  try simp only [↓bK_bl, ↓lstK_lst, ↓intK_int, ↓optK_some, ↓tBool_, ↓dAndV_, ↓dOrV_, ↓dNotV_, ↓gI_, ↓gI0_, ↓gAdd_int, ↓gAdd_str, ↓gAdd_tup, ↓gAdd_ref, ↓gNeg_, ↓gIx_tup, ↓gIx_rl, ↓gIx_ref, ↓gIx_str, ↓atK_0, ↓atK_1, ↓atK_2, ↓atK_3, ↓atK_4, ↓atK_5, ↓atK_6, ↓atK_7, ↓atK_last, ↓setK_0, ↓setK_1, ↓setK_2, ↓setK_3, ↓gLen_str, ↓gLen_tup, ↓gLen_rl, ↓gLen_ref, ↓gTupleOf_tup, ↓gTupleOf_rl, ↓gTupleOf_ref, ↓seqK_tup, ↓seqK_rl, ↓seqK_ref, ↓nListOf_, ↓isLst_ref, ↓gAppend_, ↓gInsert_, ↓isStr_str, ↓strK_str, ↓gStrCount_, ↓dJoinN_, ↓gPopAt_, ↓nRange1_, ↓gPop_, ↓refK_ref, ↓dExtN_, ↓gExt_, ↓gSetIx_, ↓itK_some, ↓iRow_, ↓rowIt_tup, ↓rowIt_rl, ↓rowIt_str, ↓iRng1_, ↓iRng2_, ↓iZip_, ↓iEnum_, ↓gNil_, ↓gCons_, ↓gTup_, ↓gTup_ref, ↓gAbs_, ↓gMax2_, ↓gMin2_, ↓gInt_int, ↓gInt_bl, ↓gLe_int, ↓gIsN_non, ↓gIsN_tup, ↓gIsN_int, ↓gIsN_str, ↓gIsN_ref, ↓gIsN_bl, ↓isi_bool_bool, ↓isi_bool_int, ↓isi_int_int, ↓isi_int_bool, ↓isi_tuple_tup, ↓isi_int_tup, ↓isi_bool_tup, ↓isi_str_str, ↓isi_tuple_int, ↓isi_tuple_non, ↓gEq_int, ↓gNe_int, ↓gEq_bl, ↓gNe_bl, ↓gEq_str, ↓gNe_str, ↓gEq_int_non, ↓oNone_, ↓oSome_, ↓gCut_str, ↓gCut_tup, ↓gCut_ref, ↓gCut_rl, ↓rowK_rl, ↓rowK_ref, ↓nCut_, ↓nSorted_, ↓gSorted1_, ↓nRev_, ↓nCatEN_, ↓nRep_, ↓tupK_tup, ↓keysD_two, ↓dtK_dT, ↓gGetT_, ↓gPutT_, ↓nKeysT_, ↓gIsB_, ↓nRepE_, ↓dIxN_, ↓gSumN_, ↓gAllN_, ↓gAnyN_, ↓gAnyI_, ↓gMaxN_, ↓gMax1_rl, ↓gMax1_ref, ↓gMinN_, ↓gMin1_rl, ↓gMin1_ref, ↓gSum_rl, ↓gSum_ref, ↓dChain_, ↓sAug_, ↓gIndex_, ↓dVar_0, ↓dVar_1, ↓dVar_2, ↓dVar_3, ↓dVar_4, ↓dVar_5, ↓dVar_6, ↓dVar_7, ↓dVar_8, ↓dVar_9, ↓dVar_10, ↓dVar_11, ↓dVar_12, ↓dVar_13, ↓dVar_14, ↓dVar_15, ↓dVar_16, ↓dVar_17, ↓dVar_18, ↓dVar_19, ↓dVar_20, ↓dVar_21, ↓dVar_22, ↓dVar_23, ↓dVar_24, ↓dVar_25, ↓sz_0, ↓sz_1, ↓sz_2, ↓sz_3, ↓sz_4, ↓sz_5, ↓sz_6, ↓sz_7, ↓sz_8, ↓sz_9, ↓sz_10, ↓sz_11, ↓sz_12, ↓sz_13, ↓u_dNewT, ↓u_sPutT, ↓u_sSeq, ↓u_sNext, ↓u_sSet, ↓u_sSetN, ↓u_sAsg, ↓u_sIf, ↓u_sRet, ↓u_sRetN, ↓u_sDrop, ↓u_sPar, ↓u_sFor, ↓u_sBreak, ↓u_sCont, ↓u_dC, ↓u_d2, ↓u_d1, ↓u_dTup, ↓u_dNew, ↓u_aNil, ↓u_aCons, ↓u_nLst, ↓u_tAnd', ↓u_tOr', ↓u_tNot', ↓u_dIf, ↓u_gName', ↓u_dCall, ↓u_dB, ↓u_dLenN, ↓u_dTupN, ↓u_dM, ↓u_iNew, ↓u_nLc, ↓u_dN1, ↓u_dCut, ↓u_nCutN, ↓u_nCatNN, ↓u_d2N, ↓u_dNN, ↓u_tYes', ↓u_dS, List.set_cons_zero, List.set_cons_succ, dwipe, ite_true, ite_false, Bool.false_eq_true, Bool.true_eq_false, Bool.not_true, Bool.not_false, beq_self_eq_true, decide_eq_true_eq, Bool.not_eq_true', decide_eq_false_iff_not, mput_same, mput_put, dends, List.length_cons, List.length_nil, true_and, and_true, Nat.reduceAdd, Nat.reduceEqDiff, Int.reduceToNat, ↓x_tabLen, ↓x_fr0, ↓x_fr1, ↓x_kn0, ↓x_kn1, ↓x_map, ↓x_at0, ↓x_at1, ↓x_len, ↓x_row, ↓x_cut, ↓x_tup2, ↓x_tupfr, ↓x_isiT, ↓x_isiK, ↓x_isiF, ↓x_notN, ↓x_getT, ↓x_putT, ↓x_notNM]
                  have hp2 : p.2 ∈ (List.range n).map fun q => wkB n t 1 q k := (List.of_mem_zip hp).2
                  obtain ⟨q, hq, e⟩ := List.mem_map.mp hp2
                  have := wkB_01 n t 1 q k
                  exact ⟨mul_r (by omega) (by omega), hacc3, hW3⟩
                · have es : ((((List.range n).map (wkB n t (j + 1) i)).zip ((List.range n).map fun q => wkB n t 1 q k)).filter fun _ => true).map (fun p => D.int (p.1 * p.2)) = ((List.range n).map fun q => wkB n t (j + 1) i q * wkB n t 1 q k).map D.int := by
                    rw [List.filter_eq_self.mpr (fun _ _ => rfl), List.zip_map', List.map_map, List.map_map]
                    rfl
                  rw [List.nil_append, es]
                  rw [intsOf_of, optK_some, wkB_succ]
                  exact ⟨hacc2, hW2⟩
              · intro d0 hd0
                refine ⟨hacc, hW d0 _ (Sub.new hd0) ?_⟩
                rw [mput_same, hcl, List.map_map]
                rfl
            · intro us M4 hs4 hul hus g' hg'
              exact hnx _ _ ⟨g', _, _, rfl, hF.sub (hs3.trans (hs4.trans (Sub.new hg'))), ⟨us, mput_same, by omega, fun i hi => (Sub.new hg') _ _ (hus i hi)⟩, hs.trans (hs3.trans (hs4.trans (Sub.new hg'))), hno2⟩

/-! ### law_right -/
def t_law_right_s3 : DTS :=
  (sIf (tOr' (tBool (d1 (gIsi "bool") (dVar 3))) (tOr' (tBool (dNe (dVar 3) (dVar 1))) (tBool (dNe (dIsN false (dVar 3)) (dIsN false (dVar 1)))))) (sRet (dC (.bl false))) sNext)
def t_law_right_b2 : DTS :=
  (sSeq (sSet 3 (dCall sp_all_reached (aCons (dVar 0) aNil))) t_law_right_s3)
def t_law_right_s4 : DTS :=
  (sRet (dC (.bl true)))
def t_law_right_s1 : DTS :=
  (sSeq (sFor (iRng1' (dC (.int 2))) (gName' 2) t_law_right_b2) t_law_right_s4)
def t_law_right : DTS :=
  (sSeq (sSet 1 (dCall sp_law_due (aCons (dVar 0) aNil))) t_law_right_s1)
def sp_law_right : DSp := fun ds m R _ => ∃ (t : List (List Int)) (n : Nat), ds = [tabD t] ∧ Tab n t ∧ R (.bl true) m
theorem len_law_right : ∀ ds m R E, sp_law_right ds m R E → ds.length = (["table"] : List Str).length := by
  rintro ds m R E ⟨a, b, rfl, _⟩; rfl
theorem rd_law_right : ∀ ds m R E, sp_law_right ds m R E → t_law_right (dends R) (dstart 4 ds) m := by
  rintro ds m R E ⟨t, n, rfl, hT, hR⟩
  show t_law_right (dends R) [some (tabD t), none, none, none] m
  simp only [t_law_right, ↓bK_bl, ↓lstK_lst, ↓intK_int, ↓optK_some, ↓tBool_, ↓dAndV_, ↓dOrV_, ↓dNotV_, ↓gI_, ↓gI0_, ↓gAdd_int, ↓gAdd_str, ↓gAdd_tup, ↓gAdd_ref, ↓gNeg_, ↓gIx_tup, ↓gIx_rl, ↓gIx_ref, ↓gIx_str, ↓atK_0, ↓atK_1, ↓atK_2, ↓atK_3, ↓atK_4, ↓atK_5, ↓atK_6, ↓atK_7, ↓atK_last, ↓setK_0, ↓setK_1, ↓setK_2, ↓setK_3, ↓gLen_str, ↓gLen_tup, ↓gLen_rl, ↓gLen_ref, ↓gTupleOf_tup, ↓gTupleOf_rl, ↓gTupleOf_ref, ↓seqK_tup, ↓seqK_rl, ↓seqK_ref, ↓nListOf_, ↓isLst_ref, ↓gAppend_, ↓gInsert_, ↓isStr_str, ↓strK_str, ↓gStrCount_, ↓dJoinN_, ↓gPopAt_, ↓nRange1_, ↓gPop_, ↓refK_ref, ↓dExtN_, ↓gExt_, ↓gSetIx_, ↓itK_some, ↓iRow_, ↓rowIt_tup, ↓rowIt_rl, ↓rowIt_str, ↓iRng1_, ↓iRng2_, ↓iZip_, ↓iEnum_, ↓gNil_, ↓gCons_, ↓gTup_, ↓gTup_ref, ↓gAbs_, ↓gMax2_, ↓gMin2_, ↓gInt_int, ↓gInt_bl, ↓gLe_int, ↓gIsN_non, ↓gIsN_tup, ↓gIsN_int, ↓gIsN_str, ↓gIsN_ref, ↓gIsN_bl, ↓isi_bool_bool, ↓isi_bool_int, ↓isi_int_int, ↓isi_int_bool, ↓isi_tuple_tup, ↓isi_int_tup, ↓isi_bool_tup, ↓isi_str_str, ↓isi_tuple_int, ↓isi_tuple_non, ↓gEq_int, ↓gNe_int, ↓gEq_bl, ↓gNe_bl, ↓gEq_str, ↓gNe_str, ↓gEq_int_non, ↓oNone_, ↓oSome_, ↓gCut_str, ↓gCut_tup, ↓gCut_ref, ↓gCut_rl, ↓rowK_rl, ↓rowK_ref, ↓nCut_, ↓nSorted_, ↓gSorted1_, ↓nRev_, ↓nCatEN_, ↓nRep_, ↓tupK_tup, ↓keysD_two, ↓dtK_dT, ↓gGetT_, ↓gPutT_, ↓nKeysT_, ↓gIsB_, ↓nRepE_, ↓dIxN_, ↓gSumN_, ↓gAllN_, ↓gAnyN_, ↓gAnyI_, ↓gMaxN_, ↓gMax1_rl, ↓gMax1_ref, ↓gMinN_, ↓gMin1_rl, ↓gMin1_ref, ↓gSum_rl, ↓gSum_ref, ↓dChain_, ↓sAug_, ↓gIndex_, ↓dVar_0, ↓dVar_1, ↓dVar_2, ↓dVar_3, ↓dVar_4, ↓dVar_5, ↓dVar_6, ↓dVar_7, ↓dVar_8, ↓dVar_9, ↓dVar_10, ↓dVar_11, ↓dVar_12, ↓dVar_13, ↓dVar_14, ↓dVar_15, ↓dVar_16, ↓dVar_17, ↓dVar_18, ↓dVar_19, ↓dVar_20, ↓dVar_21, ↓dVar_22, ↓dVar_23, ↓dVar_24, ↓dVar_25, ↓sz_0, ↓sz_1, ↓sz_2, ↓sz_3, ↓sz_4, ↓sz_5, ↓sz_6, ↓sz_7, ↓sz_8, ↓sz_9, ↓sz_10, ↓sz_11, ↓sz_12, ↓sz_13, ↓u_dNewT, ↓u_sPutT, ↓u_sSeq, ↓u_sNext, ↓u_sSet, ↓u_sSetN, ↓u_sAsg, ↓u_sIf, ↓u_sRet, ↓u_sRetN, ↓u_sDrop, ↓u_sPar, ↓u_sFor, ↓u_sBreak, ↓u_sCont, ↓u_dC, ↓u_d2, ↓u_d1, ↓u_dTup, ↓u_dNew, ↓u_aNil, ↓u_aCons, ↓u_nLst, ↓u_tAnd', ↓u_tOr', ↓u_tNot', ↓u_dIf, ↓u_gName', ↓u_dCall, ↓u_dB, ↓u_dLenN, ↓u_dTupN, ↓u_dM, ↓u_iNew, ↓u_nLc, ↓u_dN1, ↓u_dCut, ↓u_nCutN, ↓u_nCatNN, ↓u_d2N, ↓u_dNN, ↓u_tYes', ↓u_dS, List.set_cons_zero, List.set_cons_succ, dwipe, ite_true, ite_false, Bool.false_eq_true, Bool.true_eq_false, Bool.not_true, Bool.not_false, beq_self_eq_true, decide_eq_true_eq, Bool.not_eq_true', decide_eq_false_iff_not, mput_same, mput_put, dends, List.length_cons, List.length_nil, true_and, and_true, Nat.reduceAdd, Nat.reduceEqDiff, Int.reduceToNat, ↓x_tabLen, ↓x_fr0, ↓x_fr1, ↓x_kn0, ↓x_kn1, ↓x_map, ↓x_at0, ↓x_at1, ↓x_len, ↓x_row, ↓x_cut, ↓x_tup2, ↓x_tupfr, ↓x_isiT, ↓x_isiK, ↓x_isiF, ↓x_notN, ↓x_getT, ↓x_putT, ↓x_notNM]
  refine ⟨t, n, rfl, hT, ?_⟩
  rw [fst_eq hT.n1.1 hT.n1.2]
  simp only [t_law_right_s1, ↓bK_bl, ↓lstK_lst, ↓intK_int, ↓optK_some, ↓tBool_, ↓dAndV_, ↓dOrV_, ↓dNotV_, ↓gI_, ↓gI0_, ↓gAdd_int, ↓gAdd_str, ↓gAdd_tup, ↓gAdd_ref, ↓gNeg_, ↓gIx_tup, ↓gIx_rl, ↓gIx_ref, ↓gIx_str, ↓atK_0, ↓atK_1, ↓atK_2, ↓atK_3, ↓atK_4, ↓atK_5, ↓atK_6, ↓atK_7, ↓atK_last, ↓setK_0, ↓setK_1, ↓setK_2, ↓setK_3, ↓gLen_str, ↓gLen_tup, ↓gLen_rl, ↓gLen_ref, ↓gTupleOf_tup, ↓gTupleOf_rl, ↓gTupleOf_ref, ↓seqK_tup, ↓seqK_rl, ↓seqK_ref, ↓nListOf_, ↓isLst_ref, ↓gAppend_, ↓gInsert_, ↓isStr_str, ↓strK_str, ↓gStrCount_, ↓dJoinN_, ↓gPopAt_, ↓nRange1_, ↓gPop_, ↓refK_ref, ↓dExtN_, ↓gExt_, ↓gSetIx_, ↓itK_some, ↓iRow_, ↓rowIt_tup, ↓rowIt_rl, ↓rowIt_str, ↓iRng1_, ↓iRng2_, ↓iZip_, ↓iEnum_, ↓gNil_, ↓gCons_, ↓gTup_, ↓gTup_ref, ↓gAbs_, ↓gMax2_, ↓gMin2_, ↓gInt_int, ↓gInt_bl, ↓gLe_int, ↓gIsN_non, ↓gIsN_tup, ↓gIsN_int, ↓gIsN_str, ↓gIsN_ref, ↓gIsN_bl, ↓isi_bool_bool, ↓isi_bool_int, ↓isi_int_int, ↓isi_int_bool, ↓isi_tuple_tup, ↓isi_int_tup, ↓isi_bool_tup, ↓isi_str_str, ↓isi_tuple_int, ↓isi_tuple_non, ↓gEq_int, ↓gNe_int, ↓gEq_bl, ↓gNe_bl, ↓gEq_str, ↓gNe_str, ↓gEq_int_non, ↓oNone_, ↓oSome_, ↓gCut_str, ↓gCut_tup, ↓gCut_ref, ↓gCut_rl, ↓rowK_rl, ↓rowK_ref, ↓nCut_, ↓nSorted_, ↓gSorted1_, ↓nRev_, ↓nCatEN_, ↓nRep_, ↓tupK_tup, ↓keysD_two, ↓dtK_dT, ↓gGetT_, ↓gPutT_, ↓nKeysT_, ↓gIsB_, ↓nRepE_, ↓dIxN_, ↓gSumN_, ↓gAllN_, ↓gAnyN_, ↓gAnyI_, ↓gMaxN_, ↓gMax1_rl, ↓gMax1_ref, ↓gMinN_, ↓gMin1_rl, ↓gMin1_ref, ↓gSum_rl, ↓gSum_ref, ↓dChain_, ↓sAug_, ↓gIndex_, ↓dVar_0, ↓dVar_1, ↓dVar_2, ↓dVar_3, ↓dVar_4, ↓dVar_5, ↓dVar_6, ↓dVar_7, ↓dVar_8, ↓dVar_9, ↓dVar_10, ↓dVar_11, ↓dVar_12, ↓dVar_13, ↓dVar_14, ↓dVar_15, ↓dVar_16, ↓dVar_17, ↓dVar_18, ↓dVar_19, ↓dVar_20, ↓dVar_21, ↓dVar_22, ↓dVar_23, ↓dVar_24, ↓dVar_25, ↓sz_0, ↓sz_1, ↓sz_2, ↓sz_3, ↓sz_4, ↓sz_5, ↓sz_6, ↓sz_7, ↓sz_8, ↓sz_9, ↓sz_10, ↓sz_11, ↓sz_12, ↓sz_13, ↓u_dNewT, ↓u_sPutT, ↓u_sSeq, ↓u_sNext, ↓u_sSet, ↓u_sSetN, ↓u_sAsg, ↓u_sIf, ↓u_sRet, ↓u_sRetN, ↓u_sDrop, ↓u_sPar, ↓u_sFor, ↓u_sBreak, ↓u_sCont, ↓u_dC, ↓u_d2, ↓u_d1, ↓u_dTup, ↓u_dNew, ↓u_aNil, ↓u_aCons, ↓u_nLst, ↓u_tAnd', ↓u_tOr', ↓u_tNot', ↓u_dIf, ↓u_gName', ↓u_dCall, ↓u_dB, ↓u_dLenN, ↓u_dTupN, ↓u_dM, ↓u_iNew, ↓u_nLc, ↓u_dN1, ↓u_dCut, ↓u_nCutN, ↓u_nCatNN, ↓u_d2N, ↓u_dNN, ↓u_tYes', ↓u_dS, List.set_cons_zero, List.set_cons_succ, dwipe, ite_true, ite_false, Bool.false_eq_true, Bool.true_eq_false, Bool.not_true, Bool.not_false, beq_self_eq_true, decide_eq_true_eq, Bool.not_eq_true', decide_eq_false_iff_not, mput_same, mput_put, dends, List.length_cons, List.length_nil, true_and, and_true, Nat.reduceAdd, Nat.reduceEqDiff, Int.reduceToNat, ↓x_tabLen, ↓x_fr0, ↓x_fr1, ↓x_kn0, ↓x_kn1, ↓x_map, ↓x_at0, ↓x_at1, ↓x_len, ↓x_row, ↓x_cut, ↓x_tup2, ↓x_tupfr, ↓x_isiT, ↓x_isiK, ↓x_isiF, ↓x_notN, ↓x_getT, ↓x_putT, ↓x_notNM]
  refine ⟨by decide, ?_⟩
  refine for_rng 0 2 (fun j r M => ∃ (q2 q3 : Option D), r = [some (tabD t), some (ansN (fstF n t (n * n + 1))), q2, q3] ∧ M = m) ?_ ?_ _ _ ⟨_, _, rfl, rfl⟩
  · rintro r M ⟨q2, q3, rfl, rfl⟩
    refine ⟨trivial, ?_⟩
    simp only [t_law_right_s4, ↓bK_bl, ↓lstK_lst, ↓intK_int, ↓optK_some, ↓tBool_, ↓dAndV_, ↓dOrV_, ↓dNotV_, ↓gI_, ↓gI0_, ↓gAdd_int, ↓gAdd_str, ↓gAdd_tup, ↓gAdd_ref, ↓gNeg_, ↓gIx_tup, ↓gIx_rl, ↓gIx_ref, ↓gIx_str, ↓atK_0, ↓atK_1, ↓atK_2, ↓atK_3, ↓atK_4, ↓atK_5, ↓atK_6, ↓atK_7, ↓atK_last, ↓setK_0, ↓setK_1, ↓setK_2, ↓setK_3, ↓gLen_str, ↓gLen_tup, ↓gLen_rl, ↓gLen_ref, ↓gTupleOf_tup, ↓gTupleOf_rl, ↓gTupleOf_ref, ↓seqK_tup, ↓seqK_rl, ↓seqK_ref, ↓nListOf_, ↓isLst_ref, ↓gAppend_, ↓gInsert_, ↓isStr_str, ↓strK_str, ↓gStrCount_, ↓dJoinN_, ↓gPopAt_, ↓nRange1_, ↓gPop_, ↓refK_ref, ↓dExtN_, ↓gExt_, ↓gSetIx_, ↓itK_some, ↓iRow_, ↓rowIt_tup, ↓rowIt_rl, ↓rowIt_str, ↓iRng1_, ↓iRng2_, ↓iZip_, ↓iEnum_, ↓gNil_, ↓gCons_, ↓gTup_, ↓gTup_ref, ↓gAbs_, ↓gMax2_, ↓gMin2_, ↓gInt_int, ↓gInt_bl, ↓gLe_int, ↓gIsN_non, ↓gIsN_tup, ↓gIsN_int, ↓gIsN_str, ↓gIsN_ref, ↓gIsN_bl, ↓isi_bool_bool, ↓isi_bool_int, ↓isi_int_int, ↓isi_int_bool, ↓isi_tuple_tup, ↓isi_int_tup, ↓isi_bool_tup, ↓isi_str_str, ↓isi_tuple_int, ↓isi_tuple_non, ↓gEq_int, ↓gNe_int, ↓gEq_bl, ↓gNe_bl, ↓gEq_str, ↓gNe_str, ↓gEq_int_non, ↓oNone_, ↓oSome_, ↓gCut_str, ↓gCut_tup, ↓gCut_ref, ↓gCut_rl, ↓rowK_rl, ↓rowK_ref, ↓nCut_, ↓nSorted_, ↓gSorted1_, ↓nRev_, ↓nCatEN_, ↓nRep_, ↓tupK_tup, ↓keysD_two, ↓dtK_dT, ↓gGetT_, ↓gPutT_, ↓nKeysT_, ↓gIsB_, ↓nRepE_, ↓dIxN_, ↓gSumN_, ↓gAllN_, ↓gAnyN_, ↓gAnyI_, ↓gMaxN_, ↓gMax1_rl, ↓gMax1_ref, ↓gMinN_, ↓gMin1_rl, ↓gMin1_ref, ↓gSum_rl, ↓gSum_ref, ↓dChain_, ↓sAug_, ↓gIndex_, ↓dVar_0, ↓dVar_1, ↓dVar_2, ↓dVar_3, ↓dVar_4, ↓dVar_5, ↓dVar_6, ↓dVar_7, ↓dVar_8, ↓dVar_9, ↓dVar_10, ↓dVar_11, ↓dVar_12, ↓dVar_13, ↓dVar_14, ↓dVar_15, ↓dVar_16, ↓dVar_17, ↓dVar_18, ↓dVar_19, ↓dVar_20, ↓dVar_21, ↓dVar_22, ↓dVar_23, ↓dVar_24, ↓dVar_25, ↓sz_0, ↓sz_1, ↓sz_2, ↓sz_3, ↓sz_4, ↓sz_5, ↓sz_6, ↓sz_7, ↓sz_8, ↓sz_9, ↓sz_10, ↓sz_11, ↓sz_12, ↓sz_13, ↓u_dNewT, ↓u_sPutT, ↓u_sSeq, ↓u_sNext, ↓u_sSet, ↓u_sSetN, ↓u_sAsg, ↓u_sIf, ↓u_sRet, ↓u_sRetN, ↓u_sDrop, ↓u_sPar, ↓u_sFor, ↓u_sBreak, ↓u_sCont, ↓u_dC, ↓u_d2, ↓u_d1, ↓u_dTup, ↓u_dNew, ↓u_aNil, ↓u_aCons, ↓u_nLst, ↓u_tAnd', ↓u_tOr', ↓u_tNot', ↓u_dIf, ↓u_gName', ↓u_dCall, ↓u_dB, ↓u_dLenN, ↓u_dTupN, ↓u_dM, ↓u_iNew, ↓u_nLc, ↓u_dN1, ↓u_dCut, ↓u_nCutN, ↓u_nCatNN, ↓u_d2N, ↓u_dNN, ↓u_tYes', ↓u_dS, List.set_cons_zero, List.set_cons_succ, dwipe, ite_true, ite_false, Bool.false_eq_true, Bool.true_eq_false, Bool.not_true, Bool.not_false, beq_self_eq_true, decide_eq_true_eq, Bool.not_eq_true', decide_eq_false_iff_not, mput_same, mput_put, dends, List.length_cons, List.length_nil, true_and, and_true, Nat.reduceAdd, Nat.reduceEqDiff, Int.reduceToNat, ↓x_tabLen, ↓x_fr0, ↓x_fr1, ↓x_kn0, ↓x_kn1, ↓x_map, ↓x_at0, ↓x_at1, ↓x_len, ↓x_row, ↓x_cut, ↓x_tup2, ↓x_tupfr, ↓x_isiT, ↓x_isiK, ↓x_isiF, ↓x_notN, ↓x_getT, ↓x_putT, ↓x_notNM]
    exact fin_of hR
  · rintro j hj nx hnx r M ⟨q2, q3, rfl, rfl⟩
    refine ⟨trivial, ?_⟩
    simp only [t_law_right_b2, ↓bK_bl, ↓lstK_lst, ↓intK_int, ↓optK_some, ↓tBool_, ↓dAndV_, ↓dOrV_, ↓dNotV_, ↓gI_, ↓gI0_, ↓gAdd_int, ↓gAdd_str, ↓gAdd_tup, ↓gAdd_ref, ↓gNeg_, ↓gIx_tup, ↓gIx_rl, ↓gIx_ref, ↓gIx_str, ↓atK_0, ↓atK_1, ↓atK_2, ↓atK_3, ↓atK_4, ↓atK_5, ↓atK_6, ↓atK_7, ↓atK_last, ↓setK_0, ↓setK_1, ↓setK_2, ↓setK_3, ↓gLen_str, ↓gLen_tup, ↓gLen_rl, ↓gLen_ref, ↓gTupleOf_tup, ↓gTupleOf_rl, ↓gTupleOf_ref, ↓seqK_tup, ↓seqK_rl, ↓seqK_ref, ↓nListOf_, ↓isLst_ref, ↓gAppend_, ↓gInsert_, ↓isStr_str, ↓strK_str, ↓gStrCount_, ↓dJoinN_, ↓gPopAt_, ↓nRange1_, ↓gPop_, ↓refK_ref, ↓dExtN_, ↓gExt_, ↓gSetIx_, ↓itK_some, ↓iRow_, ↓rowIt_tup, ↓rowIt_rl, ↓rowIt_str, ↓iRng1_, ↓iRng2_, ↓iZip_, ↓iEnum_, ↓gNil_, ↓gCons_, ↓gTup_, ↓gTup_ref, ↓gAbs_, ↓gMax2_, ↓gMin2_, ↓gInt_int, ↓gInt_bl, ↓gLe_int, ↓gIsN_non, ↓gIsN_tup, ↓gIsN_int, ↓gIsN_str, ↓gIsN_ref, ↓gIsN_bl, ↓isi_bool_bool, ↓isi_bool_int, ↓isi_int_int, ↓isi_int_bool, ↓isi_tuple_tup, ↓isi_int_tup, ↓isi_bool_tup, ↓isi_str_str, ↓isi_tuple_int, ↓isi_tuple_non, ↓gEq_int, ↓gNe_int, ↓gEq_bl, ↓gNe_bl, ↓gEq_str, ↓gNe_str, ↓gEq_int_non, ↓oNone_, ↓oSome_, ↓gCut_str, ↓gCut_tup, ↓gCut_ref, ↓gCut_rl, ↓rowK_rl, ↓rowK_ref, ↓nCut_, ↓nSorted_, ↓gSorted1_, ↓nRev_, ↓nCatEN_, ↓nRep_, ↓tupK_tup, ↓keysD_two, ↓dtK_dT, ↓gGetT_, ↓gPutT_, ↓nKeysT_, ↓gIsB_, ↓nRepE_, ↓dIxN_, ↓gSumN_, ↓gAllN_, ↓gAnyN_, ↓gAnyI_, ↓gMaxN_, ↓gMax1_rl, ↓gMax1_ref, ↓gMinN_, ↓gMin1_rl, ↓gMin1_ref, ↓gSum_rl, ↓gSum_ref, ↓dChain_, ↓sAug_, ↓gIndex_, ↓dVar_0, ↓dVar_1, ↓dVar_2, ↓dVar_3, ↓dVar_4, ↓dVar_5, ↓dVar_6, ↓dVar_7, ↓dVar_8, ↓dVar_9, ↓dVar_10, ↓dVar_11, ↓dVar_12, ↓dVar_13, ↓dVar_14, ↓dVar_15, ↓dVar_16, ↓dVar_17, ↓dVar_18, ↓dVar_19, ↓dVar_20, ↓dVar_21, ↓dVar_22, ↓dVar_23, ↓dVar_24, ↓dVar_25, ↓sz_0, ↓sz_1, ↓sz_2, ↓sz_3, ↓sz_4, ↓sz_5, ↓sz_6, ↓sz_7, ↓sz_8, ↓sz_9, ↓sz_10, ↓sz_11, ↓sz_12, ↓sz_13, ↓u_dNewT, ↓u_sPutT, ↓u_sSeq, ↓u_sNext, ↓u_sSet, ↓u_sSetN, ↓u_sAsg, ↓u_sIf, ↓u_sRet, ↓u_sRetN, ↓u_sDrop, ↓u_sPar, ↓u_sFor, ↓u_sBreak, ↓u_sCont, ↓u_dC, ↓u_d2, ↓u_d1, ↓u_dTup, ↓u_dNew, ↓u_aNil, ↓u_aCons, ↓u_nLst, ↓u_tAnd', ↓u_tOr', ↓u_tNot', ↓u_dIf, ↓u_gName', ↓u_dCall, ↓u_dB, ↓u_dLenN, ↓u_dTupN, ↓u_dM, ↓u_iNew, ↓u_nLc, ↓u_dN1, ↓u_dCut, ↓u_nCutN, ↓u_nCatNN, ↓u_d2N, ↓u_dNN, ↓u_tYes', ↓u_dS, List.set_cons_zero, List.set_cons_succ, dwipe, ite_true, ite_false, Bool.false_eq_true, Bool.true_eq_false, Bool.not_true, Bool.not_false, beq_self_eq_true, decide_eq_true_eq, Bool.not_eq_true', decide_eq_false_iff_not, mput_same, mput_put, dends, List.length_cons, List.length_nil, true_and, and_true, Nat.reduceAdd, Nat.reduceEqDiff, Int.reduceToNat, ↓x_tabLen, ↓x_fr0, ↓x_fr1, ↓x_kn0, ↓x_kn1, ↓x_map, ↓x_at0, ↓x_at1, ↓x_len, ↓x_row, ↓x_cut, ↓x_tup2, ↓x_tupfr, ↓x_isiT, ↓x_isiK, ↓x_isiF, ↓x_notN, ↓x_getT, ↓x_putT, ↓x_notNM]
    refine ⟨t, n, rfl, hT, ?_⟩
    generalize fstF n t (n * n + 1) = o at *
    cases o with
    | none =>
      simp only [t_law_right_s3, ansN, ↓bK_bl, ↓lstK_lst, ↓intK_int, ↓optK_some, ↓tBool_, ↓dAndV_, ↓dOrV_, ↓dNotV_, ↓gI_, ↓gI0_, ↓gAdd_int, ↓gAdd_str, ↓gAdd_tup, ↓gAdd_ref, ↓gNeg_, ↓gIx_tup, ↓gIx_rl, ↓gIx_ref, ↓gIx_str, ↓atK_0, ↓atK_1, ↓atK_2, ↓atK_3, ↓atK_4, ↓atK_5, ↓atK_6, ↓atK_7, ↓atK_last, ↓setK_0, ↓setK_1, ↓setK_2, ↓setK_3, ↓gLen_str, ↓gLen_tup, ↓gLen_rl, ↓gLen_ref, ↓gTupleOf_tup, ↓gTupleOf_rl, ↓gTupleOf_ref, ↓seqK_tup, ↓seqK_rl, ↓seqK_ref, ↓nListOf_, ↓isLst_ref, ↓gAppend_, ↓gInsert_, ↓isStr_str, ↓strK_str, ↓gStrCount_, ↓dJoinN_, ↓gPopAt_, ↓nRange1_, ↓gPop_, ↓refK_ref, ↓dExtN_, ↓gExt_, ↓gSetIx_, ↓itK_some, ↓iRow_, ↓rowIt_tup, ↓rowIt_rl, ↓rowIt_str, ↓iRng1_, ↓iRng2_, ↓iZip_, ↓iEnum_, ↓gNil_, ↓gCons_, ↓gTup_, ↓gTup_ref, ↓gAbs_, ↓gMax2_, ↓gMin2_, ↓gInt_int, ↓gInt_bl, ↓gLe_int, ↓gIsN_non, ↓gIsN_tup, ↓gIsN_int, ↓gIsN_str, ↓gIsN_ref, ↓gIsN_bl, ↓isi_bool_bool, ↓isi_bool_int, ↓isi_int_int, ↓isi_int_bool, ↓isi_tuple_tup, ↓isi_int_tup, ↓isi_bool_tup, ↓isi_str_str, ↓isi_tuple_int, ↓isi_tuple_non, ↓gEq_int, ↓gNe_int, ↓gEq_bl, ↓gNe_bl, ↓gEq_str, ↓gNe_str, ↓gEq_int_non, ↓oNone_, ↓oSome_, ↓gCut_str, ↓gCut_tup, ↓gCut_ref, ↓gCut_rl, ↓rowK_rl, ↓rowK_ref, ↓nCut_, ↓nSorted_, ↓gSorted1_, ↓nRev_, ↓nCatEN_, ↓nRep_, ↓tupK_tup, ↓keysD_two, ↓dtK_dT, ↓gGetT_, ↓gPutT_, ↓nKeysT_, ↓gIsB_, ↓nRepE_, ↓dIxN_, ↓gSumN_, ↓gAllN_, ↓gAnyN_, ↓gAnyI_, ↓gMaxN_, ↓gMax1_rl, ↓gMax1_ref, ↓gMinN_, ↓gMin1_rl, ↓gMin1_ref, ↓gSum_rl, ↓gSum_ref, ↓dChain_, ↓sAug_, ↓gIndex_, ↓dVar_0, ↓dVar_1, ↓dVar_2, ↓dVar_3, ↓dVar_4, ↓dVar_5, ↓dVar_6, ↓dVar_7, ↓dVar_8, ↓dVar_9, ↓dVar_10, ↓dVar_11, ↓dVar_12, ↓dVar_13, ↓dVar_14, ↓dVar_15, ↓dVar_16, ↓dVar_17, ↓dVar_18, ↓dVar_19, ↓dVar_20, ↓dVar_21, ↓dVar_22, ↓dVar_23, ↓dVar_24, ↓dVar_25, ↓sz_0, ↓sz_1, ↓sz_2, ↓sz_3, ↓sz_4, ↓sz_5, ↓sz_6, ↓sz_7, ↓sz_8, ↓sz_9, ↓sz_10, ↓sz_11, ↓sz_12, ↓sz_13, ↓u_dNewT, ↓u_sPutT, ↓u_sSeq, ↓u_sNext, ↓u_sSet, ↓u_sSetN, ↓u_sAsg, ↓u_sIf, ↓u_sRet, ↓u_sRetN, ↓u_sDrop, ↓u_sPar, ↓u_sFor, ↓u_sBreak, ↓u_sCont, ↓u_dC, ↓u_d2, ↓u_d1, ↓u_dTup, ↓u_dNew, ↓u_aNil, ↓u_aCons, ↓u_nLst, ↓u_tAnd', ↓u_tOr', ↓u_tNot', ↓u_dIf, ↓u_gName', ↓u_dCall, ↓u_dB, ↓u_dLenN, ↓u_dTupN, ↓u_dM, ↓u_iNew, ↓u_nLc, ↓u_dN1, ↓u_dCut, ↓u_nCutN, ↓u_nCatNN, ↓u_d2N, ↓u_dNN, ↓u_tYes', ↓u_dS, List.set_cons_zero, List.set_cons_succ, dwipe, ite_true, ite_false, Bool.false_eq_true, Bool.true_eq_false, Bool.not_true, Bool.not_false, beq_self_eq_true, decide_eq_true_eq, Bool.not_eq_true', decide_eq_false_iff_not, mput_same, mput_put, dends, List.length_cons, List.length_nil, true_and, and_true, Nat.reduceAdd, Nat.reduceEqDiff, Int.reduceToNat, ↓x_tabLen, ↓x_fr0, ↓x_fr1, ↓x_kn0, ↓x_kn1, ↓x_map, ↓x_at0, ↓x_at1, ↓x_len, ↓x_row, ↓x_cut, ↓x_tup2, ↓x_tupfr, ↓x_isiT, ↓x_isiK, ↓x_isiF, ↓x_notN, ↓x_getT, ↓x_putT, ↓x_notNM]
      have e1 : ∀ K : DK, K (.bl false) M → gIsi "bool" .non M K := fun K h => h
      refine e1 _ ?_
      try simp only [↓bK_bl, ↓lstK_lst, ↓intK_int, ↓optK_some, ↓tBool_, ↓dAndV_, ↓dOrV_, ↓dNotV_, ↓gI_, ↓gI0_, ↓gAdd_int, ↓gAdd_str, ↓gAdd_tup, ↓gAdd_ref, ↓gNeg_, ↓gIx_tup, ↓gIx_rl, ↓gIx_ref, ↓gIx_str, ↓atK_0, ↓atK_1, ↓atK_2, ↓atK_3, ↓atK_4, ↓atK_5, ↓atK_6, ↓atK_7, ↓atK_last, ↓setK_0, ↓setK_1, ↓setK_2, ↓setK_3, ↓gLen_str, ↓gLen_tup, ↓gLen_rl, ↓gLen_ref, ↓gTupleOf_tup, ↓gTupleOf_rl, ↓gTupleOf_ref, ↓seqK_tup, ↓seqK_rl, ↓seqK_ref, ↓nListOf_, ↓isLst_ref, ↓gAppend_, ↓gInsert_, ↓isStr_str, ↓strK_str, ↓gStrCount_, ↓dJoinN_, ↓gPopAt_, ↓nRange1_, ↓gPop_, ↓refK_ref, ↓dExtN_, ↓gExt_, ↓gSetIx_, ↓itK_some, ↓iRow_, ↓rowIt_tup, ↓rowIt_rl, ↓rowIt_str, ↓iRng1_, ↓iRng2_, ↓iZip_, ↓iEnum_, ↓gNil_, ↓gCons_, ↓gTup_, ↓gTup_ref, ↓gAbs_, ↓gMax2_, ↓gMin2_, ↓gInt_int, ↓gInt_bl, ↓gLe_int, ↓gIsN_non, ↓gIsN_tup, ↓gIsN_int, ↓gIsN_str, ↓gIsN_ref, ↓gIsN_bl, ↓isi_bool_bool, ↓isi_bool_int, ↓isi_int_int, ↓isi_int_bool, ↓isi_tuple_tup, ↓isi_int_tup, ↓isi_bool_tup, ↓isi_str_str, ↓isi_tuple_int, ↓isi_tuple_non, ↓gEq_int, ↓gNe_int, ↓gEq_bl, ↓gNe_bl, ↓gEq_str, ↓gNe_str, ↓gEq_int_non, ↓oNone_, ↓oSome_, ↓gCut_str, ↓gCut_tup, ↓gCut_ref, ↓gCut_rl, ↓rowK_rl, ↓rowK_ref, ↓nCut_, ↓nSorted_, ↓gSorted1_, ↓nRev_, ↓nCatEN_, ↓nRep_, ↓tupK_tup, ↓keysD_two, ↓dtK_dT, ↓gGetT_, ↓gPutT_, ↓nKeysT_, ↓gIsB_, ↓nRepE_, ↓dIxN_, ↓gSumN_, ↓gAllN_, ↓gAnyN_, ↓gAnyI_, ↓gMaxN_, ↓gMax1_rl, ↓gMax1_ref, ↓gMinN_, ↓gMin1_rl, ↓gMin1_ref, ↓gSum_rl, ↓gSum_ref, ↓dChain_, ↓sAug_, ↓gIndex_, ↓dVar_0, ↓dVar_1, ↓dVar_2, ↓dVar_3, ↓dVar_4, ↓dVar_5, ↓dVar_6, ↓dVar_7, ↓dVar_8, ↓dVar_9, ↓dVar_10, ↓dVar_11, ↓dVar_12, ↓dVar_13, ↓dVar_14, ↓dVar_15, ↓dVar_16, ↓dVar_17, ↓dVar_18, ↓dVar_19, ↓dVar_20, ↓dVar_21, ↓dVar_22, ↓dVar_23, ↓dVar_24, ↓dVar_25, ↓sz_0, ↓sz_1, ↓sz_2, ↓sz_3, ↓sz_4, ↓sz_5, ↓sz_6, ↓sz_7, ↓sz_8, ↓sz_9, ↓sz_10, ↓sz_11, ↓sz_12, ↓sz_13, ↓u_dNewT, ↓u_sPutT, ↓u_sSeq, ↓u_sNext, ↓u_sSet, ↓u_sSetN, ↓u_sAsg, ↓u_sIf, ↓u_sRet, ↓u_sRetN, ↓u_sDrop, ↓u_sPar, ↓u_sFor, ↓u_sBreak, ↓u_sCont, ↓u_dC, ↓u_d2, ↓u_d1, ↓u_dTup, ↓u_dNew, ↓u_aNil, ↓u_aCons, ↓u_nLst, ↓u_tAnd', ↓u_tOr', ↓u_tNot', ↓u_dIf, ↓u_gName', ↓u_dCall, ↓u_dB, ↓u_dLenN, ↓u_dTupN, ↓u_dM, ↓u_iNew, ↓u_nLc, ↓u_dN1, ↓u_dCut, ↓u_nCutN, ↓u_nCatNN, ↓u_d2N, ↓u_dNN, ↓u_tYes', ↓u_dS, List.set_cons_zero, List.set_cons_succ, dwipe, ite_true, ite_false, Bool.false_eq_true, Bool.true_eq_false, Bool.not_true, Bool.not_false, beq_self_eq_true, decide_eq_true_eq, Bool.not_eq_true', decide_eq_false_iff_not, mput_same, mput_put, dends, List.length_cons, List.length_nil, true_and, and_true, Nat.reduceAdd, Nat.reduceEqDiff, Int.reduceToNat, ↓x_tabLen, ↓x_fr0, ↓x_fr1, ↓x_kn0, ↓x_kn1, ↓x_map, ↓x_at0, ↓x_at1, ↓x_len, ↓x_row, ↓x_cut, ↓x_tup2, ↓x_tupfr, ↓x_isiT, ↓x_isiK, ↓x_isiF, ↓x_notN, ↓x_getT, ↓x_putT, ↓x_notNM]
      have e2 : ∀ K : DK, K (.bl false) M → gNe .non .non M K := fun K h => h
      refine e2 _ ?_
      try simp only [↓bK_bl, ↓lstK_lst, ↓intK_int, ↓optK_some, ↓tBool_, ↓dAndV_, ↓dOrV_, ↓dNotV_, ↓gI_, ↓gI0_, ↓gAdd_int, ↓gAdd_str, ↓gAdd_tup, ↓gAdd_ref, ↓gNeg_, ↓gIx_tup, ↓gIx_rl, ↓gIx_ref, ↓gIx_str, ↓atK_0, ↓atK_1, ↓atK_2, ↓atK_3, ↓atK_4, ↓atK_5, ↓atK_6, ↓atK_7, ↓atK_last, ↓setK_0, ↓setK_1, ↓setK_2, ↓setK_3, ↓gLen_str, ↓gLen_tup, ↓gLen_rl, ↓gLen_ref, ↓gTupleOf_tup, ↓gTupleOf_rl, ↓gTupleOf_ref, ↓seqK_tup, ↓seqK_rl, ↓seqK_ref, ↓nListOf_, ↓isLst_ref, ↓gAppend_, ↓gInsert_, ↓isStr_str, ↓strK_str, ↓gStrCount_, ↓dJoinN_, ↓gPopAt_, ↓nRange1_, ↓gPop_, ↓refK_ref, ↓dExtN_, ↓gExt_, ↓gSetIx_, ↓itK_some, ↓iRow_, ↓rowIt_tup, ↓rowIt_rl, ↓rowIt_str, ↓iRng1_, ↓iRng2_, ↓iZip_, ↓iEnum_, ↓gNil_, ↓gCons_, ↓gTup_, ↓gTup_ref, ↓gAbs_, ↓gMax2_, ↓gMin2_, ↓gInt_int, ↓gInt_bl, ↓gLe_int, ↓gIsN_non, ↓gIsN_tup, ↓gIsN_int, ↓gIsN_str, ↓gIsN_ref, ↓gIsN_bl, ↓isi_bool_bool, ↓isi_bool_int, ↓isi_int_int, ↓isi_int_bool, ↓isi_tuple_tup, ↓isi_int_tup, ↓isi_bool_tup, ↓isi_str_str, ↓isi_tuple_int, ↓isi_tuple_non, ↓gEq_int, ↓gNe_int, ↓gEq_bl, ↓gNe_bl, ↓gEq_str, ↓gNe_str, ↓gEq_int_non, ↓oNone_, ↓oSome_, ↓gCut_str, ↓gCut_tup, ↓gCut_ref, ↓gCut_rl, ↓rowK_rl, ↓rowK_ref, ↓nCut_, ↓nSorted_, ↓gSorted1_, ↓nRev_, ↓nCatEN_, ↓nRep_, ↓tupK_tup, ↓keysD_two, ↓dtK_dT, ↓gGetT_, ↓gPutT_, ↓nKeysT_, ↓gIsB_, ↓nRepE_, ↓dIxN_, ↓gSumN_, ↓gAllN_, ↓gAnyN_, ↓gAnyI_, ↓gMaxN_, ↓gMax1_rl, ↓gMax1_ref, ↓gMinN_, ↓gMin1_rl, ↓gMin1_ref, ↓gSum_rl, ↓gSum_ref, ↓dChain_, ↓sAug_, ↓gIndex_, ↓dVar_0, ↓dVar_1, ↓dVar_2, ↓dVar_3, ↓dVar_4, ↓dVar_5, ↓dVar_6, ↓dVar_7, ↓dVar_8, ↓dVar_9, ↓dVar_10, ↓dVar_11, ↓dVar_12, ↓dVar_13, ↓dVar_14, ↓dVar_15, ↓dVar_16, ↓dVar_17, ↓dVar_18, ↓dVar_19, ↓dVar_20, ↓dVar_21, ↓dVar_22, ↓dVar_23, ↓dVar_24, ↓dVar_25, ↓sz_0, ↓sz_1, ↓sz_2, ↓sz_3, ↓sz_4, ↓sz_5, ↓sz_6, ↓sz_7, ↓sz_8, ↓sz_9, ↓sz_10, ↓sz_11, ↓sz_12, ↓sz_13, ↓u_dNewT, ↓u_sPutT, ↓u_sSeq, ↓u_sNext, ↓u_sSet, ↓u_sSetN, ↓u_sAsg, ↓u_sIf, ↓u_sRet, ↓u_sRetN, ↓u_sDrop, ↓u_sPar, ↓u_sFor, ↓u_sBreak, ↓u_sCont, ↓u_dC, ↓u_d2, ↓u_d1, ↓u_dTup, ↓u_dNew, ↓u_aNil, ↓u_aCons, ↓u_nLst, ↓u_tAnd', ↓u_tOr', ↓u_tNot', ↓u_dIf, ↓u_gName', ↓u_dCall, ↓u_dB, ↓u_dLenN, ↓u_dTupN, ↓u_dM, ↓u_iNew, ↓u_nLc, ↓u_dN1, ↓u_dCut, ↓u_nCutN, ↓u_nCatNN, ↓u_d2N, ↓u_dNN, ↓u_tYes', ↓u_dS, List.set_cons_zero, List.set_cons_succ, dwipe, ite_true, ite_false, Bool.false_eq_true, Bool.true_eq_false, Bool.not_true, Bool.not_false, beq_self_eq_true, decide_eq_true_eq, Bool.not_eq_true', decide_eq_false_iff_not, mput_same, mput_put, dends, List.length_cons, List.length_nil, true_and, and_true, Nat.reduceAdd, Nat.reduceEqDiff, Int.reduceToNat, ↓x_tabLen, ↓x_fr0, ↓x_fr1, ↓x_kn0, ↓x_kn1, ↓x_map, ↓x_at0, ↓x_at1, ↓x_len, ↓x_row, ↓x_cut, ↓x_tup2, ↓x_tupfr, ↓x_isiT, ↓x_isiK, ↓x_isiF, ↓x_notN, ↓x_getT, ↓x_putT, ↓x_notNM]
      exact hnx _ _ ⟨_, _, rfl, rfl⟩
    | some k =>
      simp only [t_law_right_s3, ansN, ↓bK_bl, ↓lstK_lst, ↓intK_int, ↓optK_some, ↓tBool_, ↓dAndV_, ↓dOrV_, ↓dNotV_, ↓gI_, ↓gI0_, ↓gAdd_int, ↓gAdd_str, ↓gAdd_tup, ↓gAdd_ref, ↓gNeg_, ↓gIx_tup, ↓gIx_rl, ↓gIx_ref, ↓gIx_str, ↓atK_0, ↓atK_1, ↓atK_2, ↓atK_3, ↓atK_4, ↓atK_5, ↓atK_6, ↓atK_7, ↓atK_last, ↓setK_0, ↓setK_1, ↓setK_2, ↓setK_3, ↓gLen_str, ↓gLen_tup, ↓gLen_rl, ↓gLen_ref, ↓gTupleOf_tup, ↓gTupleOf_rl, ↓gTupleOf_ref, ↓seqK_tup, ↓seqK_rl, ↓seqK_ref, ↓nListOf_, ↓isLst_ref, ↓gAppend_, ↓gInsert_, ↓isStr_str, ↓strK_str, ↓gStrCount_, ↓dJoinN_, ↓gPopAt_, ↓nRange1_, ↓gPop_, ↓refK_ref, ↓dExtN_, ↓gExt_, ↓gSetIx_, ↓itK_some, ↓iRow_, ↓rowIt_tup, ↓rowIt_rl, ↓rowIt_str, ↓iRng1_, ↓iRng2_, ↓iZip_, ↓iEnum_, ↓gNil_, ↓gCons_, ↓gTup_, ↓gTup_ref, ↓gAbs_, ↓gMax2_, ↓gMin2_, ↓gInt_int, ↓gInt_bl, ↓gLe_int, ↓gIsN_non, ↓gIsN_tup, ↓gIsN_int, ↓gIsN_str, ↓gIsN_ref, ↓gIsN_bl, ↓isi_bool_bool, ↓isi_bool_int, ↓isi_int_int, ↓isi_int_bool, ↓isi_tuple_tup, ↓isi_int_tup, ↓isi_bool_tup, ↓isi_str_str, ↓isi_tuple_int, ↓isi_tuple_non, ↓gEq_int, ↓gNe_int, ↓gEq_bl, ↓gNe_bl, ↓gEq_str, ↓gNe_str, ↓gEq_int_non, ↓oNone_, ↓oSome_, ↓gCut_str, ↓gCut_tup, ↓gCut_ref, ↓gCut_rl, ↓rowK_rl, ↓rowK_ref, ↓nCut_, ↓nSorted_, ↓gSorted1_, ↓nRev_, ↓nCatEN_, ↓nRep_, ↓tupK_tup, ↓keysD_two, ↓dtK_dT, ↓gGetT_, ↓gPutT_, ↓nKeysT_, ↓gIsB_, ↓nRepE_, ↓dIxN_, ↓gSumN_, ↓gAllN_, ↓gAnyN_, ↓gAnyI_, ↓gMaxN_, ↓gMax1_rl, ↓gMax1_ref, ↓gMinN_, ↓gMin1_rl, ↓gMin1_ref, ↓gSum_rl, ↓gSum_ref, ↓dChain_, ↓sAug_, ↓gIndex_, ↓dVar_0, ↓dVar_1, ↓dVar_2, ↓dVar_3, ↓dVar_4, ↓dVar_5, ↓dVar_6, ↓dVar_7, ↓dVar_8, ↓dVar_9, ↓dVar_10, ↓dVar_11, ↓dVar_12, ↓dVar_13, ↓dVar_14, ↓dVar_15, ↓dVar_16, ↓dVar_17, ↓dVar_18, ↓dVar_19, ↓dVar_20, ↓dVar_21, ↓dVar_22, ↓dVar_23, ↓dVar_24, ↓dVar_25, ↓sz_0, ↓sz_1, ↓sz_2, ↓sz_3, ↓sz_4, ↓sz_5, ↓sz_6, ↓sz_7, ↓sz_8, ↓sz_9, ↓sz_10, ↓sz_11, ↓sz_12, ↓sz_13, ↓u_dNewT, ↓u_sPutT, ↓u_sSeq, ↓u_sNext, ↓u_sSet, ↓u_sSetN, ↓u_sAsg, ↓u_sIf, ↓u_sRet, ↓u_sRetN, ↓u_sDrop, ↓u_sPar, ↓u_sFor, ↓u_sBreak, ↓u_sCont, ↓u_dC, ↓u_d2, ↓u_d1, ↓u_dTup, ↓u_dNew, ↓u_aNil, ↓u_aCons, ↓u_nLst, ↓u_tAnd', ↓u_tOr', ↓u_tNot', ↓u_dIf, ↓u_gName', ↓u_dCall, ↓u_dB, ↓u_dLenN, ↓u_dTupN, ↓u_dM, ↓u_iNew, ↓u_nLc, ↓u_dN1, ↓u_dCut, ↓u_nCutN, ↓u_nCatNN, ↓u_d2N, ↓u_dNN, ↓u_tYes', ↓u_dS, List.set_cons_zero, List.set_cons_succ, dwipe, ite_true, ite_false, Bool.false_eq_true, Bool.true_eq_false, Bool.not_true, Bool.not_false, beq_self_eq_true, decide_eq_true_eq, Bool.not_eq_true', decide_eq_false_iff_not, mput_same, mput_put, dends, List.length_cons, List.length_nil, true_and, and_true, Nat.reduceAdd, Nat.reduceEqDiff, Int.reduceToNat, ↓x_tabLen, ↓x_fr0, ↓x_fr1, ↓x_kn0, ↓x_kn1, ↓x_map, ↓x_at0, ↓x_at1, ↓x_len, ↓x_row, ↓x_cut, ↓x_tup2, ↓x_tupfr, ↓x_isiT, ↓x_isiK, ↓x_isiF, ↓x_notN, ↓x_getT, ↓x_putT, ↓x_notNM]
      rw [if_neg (fun h => h trivial)]
      exact hnx _ _ ⟨_, _, rfl, rfl⟩

/-! ### law_table -/
def t_law_table_s8 : DTS :=
  (sAsg (dC (.int 1)) (gSetIx (dIx (dVar 4) (dVar 6)) (dIxN (nLst (aCons (dPlus (dMul (dDiv (dVar 6) (dC (.int 3))) (dC (.int 3))) (dMod (dPlus (dVar 6) (dC (.int 1))) (dC (.int 3)))) (aCons (dMul (dDiv (dVar 6) (dC (.int 3))) (dC (.int 3))) aNil))) (dB gInt (aCons (dOrV (dEq (dMod (dVar 6) (dC (.int 3))) (dC (.int 2))) (dEq (dPlus (dVar 6) (dC (.int 1))) (dVar 2))) aNil)))))
def t_law_table_s7 : DTS :=
  (sIf (tBool (dEq (dVar 5) (dC (.int 3)))) (sSeq (sAsg (dNew (nLc (iRng1' (dVar 2)) (gName' 10) tYes' (dMul (dIx (dIx (dVar 4) (dVar 6)) (dVar 10)) (dB gInt (aCons (dGt (dDiv (dVar 10) (dC (.int 3))) (dDiv (dVar 6) (dC (.int 3)))) aNil))) [10])) (gSetIx (dVar 4) (dVar 6))) t_law_table_s8) sNext)
def t_law_table_s6 : DTS :=
  (sSeq (sIf (tBool (dEq (dVar 5) (dC (.int 2)))) (sAsg (dNew (nLc (iRng1' (dVar 2)) (gName' 10) tYes' (dB gInt (aCons (dEq (dVar 10) (dMod (dPlus (dVar 6) (dC (.int 1))) (dVar 2))) aNil)) [10])) (gSetIx (dVar 4) (dVar 6))) sNext) t_law_table_s7)
def t_law_table_b5 : DTS :=
  (sSeq (sIf (tBool (dEq (dVar 5) (dC (.int 1)))) (sAsg (dPlus (dNew (nRep (nLst (aCons (dC (.int 0)) aNil)) (dVar 6))) (dCut (dIx (dVar 4) (dVar 6)) (oSome (dVar 6)) oNone)) (gSetIx (dVar 4) (dVar 6))) sNext) t_law_table_s6)
def t_law_table_s11 : DTS :=
  (sRet (dTupN (nLc (iRow (dVar 8)) (gName' 6) tYes' (dTupN (nLc (iRow (dVar 8)) (gName' 10) tYes' (dIx (dIx (dVar 4) (dVar 6)) (dVar 10)) [10])) [6])))
def t_law_table_s10 : DTS :=
  (sSeq (sSetN 8 (nLc (iRng1' (dVar 2)) (gName' 6) tYes' (dM gPopAt (dVar 7) (aCons (dCall sp_law_take (aCons (dVar 0) (aCons (dB gLen (aCons (dVar 7) aNil)) aNil))) aNil)) [6])) t_law_table_s11)
def t_law_table_s9 : DTS :=
  (sSeq (sSetN 7 (nRange1 (dVar 2))) t_law_table_s10)
def t_law_table_s4 : DTS :=
  (sSeq (sFor (iRng1' (dVar 2)) (gName' 6) t_law_table_b5) t_law_table_s9)
def t_law_table_s3 : DTS :=
  (sSeq (sSet 5 (dCall sp_law_take (aCons (dVar 0) (aCons (dC (.int 5)) aNil)))) t_law_table_s4)
def t_law_table_s2 : DTS :=
  (sSeq (sSetN 4 (nLc (iRng1' (dVar 2)) (gName' 9) tYes' (dNew (nLc (iRng1' (dVar 2)) (gName' 6) tYes' (dIx (dVar 3) (dCall sp_law_take (aCons (dVar 0) (aCons (dB gLen (aCons (dVar 3) aNil)) aNil)))) [6])) [9])) t_law_table_s3)
def t_law_table_s1 : DTS :=
  (sSeq (sSet 3 (dIxN (nLst (aCons (dNew (nLst (aCons (dC (.int 0)) (aCons (dC (.int 1)) aNil)))) (aCons (dNew (nLst (aCons (dC (.int 0)) (aCons (dC (.int 0)) (aCons (dC (.int 0)) (aCons (dC (.int 1)) aNil)))))) (aCons (dNew (nLst (aCons (dC (.int 0)) (aCons (dC (.int 0)) (aCons (dC (.int 1)) aNil))))) (aCons (dNew (nLst (aCons (dC (.int 1)) aNil))) (aCons (dNew (nLst (aCons (dC (.int 0)) (aCons (dC (.int 1)) (aCons (dC (.int 2)) aNil))))) (aCons (dNew (nLst (aCons (dC (.int 0)) (aCons (dC (.int 0)) (aCons (dC (.int 0)) (aCons (dC (.int 9)) aNil)))))) (aCons (dNew (nLst (aCons (dC (.int 0)) (aCons (dC (.int 5)) (aCons (dC (.int 9)) (aCons (dC (.int 1)) aNil)))))) (aCons (dNew (nLst (aCons (dC (.int 0)) aNil))) aNil))))))))) (dCall sp_law_take (aCons (dVar 0) (aCons (dC (.int 8)) aNil))))) t_law_table_s2)
def t_law_table : DTS :=
  (sSeq (sSet 2 (dPlus (dC (.int 1)) (dCall sp_law_take (aCons (dVar 0) (aCons (dVar 1) aNil))))) t_law_table_s1)
def sp_law_table : DSp := fun ds m R _ => ∃ (a b : Addr) (most : Int) (N : Nat), ds = [.ref a, .int most] ∧ TDeck N m a b ∧ N < 2 ^ 40 ∧ 1 ≤ most ∧ most ≤ 12 ∧ ∀ (n : Nat) (t : List (List Int)) (m' : Mu), Tab n t → TDeck (N + 1000) m' a b → R (tabD t) m'
theorem len_law_table : ∀ ds m R E, sp_law_table ds m R E → ds.length = (["deck", "most"] : List Str).length := by
  rintro ds m R E ⟨a, b, c, d, rfl, _⟩; rfl
def Mnu (a b : Addr) (M : Mu) (g : Addr) : Prop := g ≠ a ∧ g ≠ b ∧ ∃ mn : List Int, M g = some (.lst (mn.map D.int)) ∧ 1 ≤ mn.length ∧ mn.length ≤ 4 ∧ ∀ z ∈ mn, 0 ≤ z ∧ z ≤ 9
theorem Mnu.new {a b g x : Addr} {M : Mu} {o : O} (h : Mnu a b M g) (hx : M x = none) : Mnu a b (mput M x o) g := by
  obtain ⟨h1, h2, mn, h3, h4⟩ := h
  exact ⟨h1, h2, mn, by rw [mput_ne (ne_of h3 hx)]; exact h3, h4⟩
theorem Mnu.here {a b x : Addr} {M : Mu} {N : Nat} {mn : List Int} (hT : TDeck N M a b) (hx : M x = none) (l1 : 1 ≤ mn.length) (l2 : mn.length ≤ 4) (hz : ∀ z ∈ mn, 0 ≤ z ∧ z ≤ 9) : Mnu a b (mput M x (O.lst (mn.map D.int))) x :=
  ⟨hT.na hx, hT.nb hx, mn, mput_same, l1, l2, hz⟩
theorem rd_law_table : ∀ ds m R E, sp_law_table ds m R E → t_law_table (dends R) (dstart 11 ds) m := by
  rintro ds m R E ⟨a, b, most, N, rfl, hD, hN, mo1, mo2, hR⟩
  show t_law_table (dends R) [some (.ref a), some (.int most), none, none, none, none, none, none, none, none, none] m
  have hsl := sizeLine_eq
  simp only [t_law_table, ↓bK_bl, ↓lstK_lst, ↓intK_int, ↓optK_some, ↓tBool_, ↓dAndV_, ↓dOrV_, ↓dNotV_, ↓gI_, ↓gI0_, ↓gAdd_int, ↓gAdd_str, ↓gAdd_tup, ↓gAdd_ref, ↓gNeg_, ↓gIx_tup, ↓gIx_rl, ↓gIx_ref, ↓gIx_str, ↓atK_0, ↓atK_1, ↓atK_2, ↓atK_3, ↓atK_4, ↓atK_5, ↓atK_6, ↓atK_7, ↓atK_last, ↓setK_0, ↓setK_1, ↓setK_2, ↓setK_3, ↓gLen_str, ↓gLen_tup, ↓gLen_rl, ↓gLen_ref, ↓gTupleOf_tup, ↓gTupleOf_rl, ↓gTupleOf_ref, ↓seqK_tup, ↓seqK_rl, ↓seqK_ref, ↓nListOf_, ↓isLst_ref, ↓gAppend_, ↓gInsert_, ↓isStr_str, ↓strK_str, ↓gStrCount_, ↓dJoinN_, ↓gPopAt_, ↓nRange1_, ↓gPop_, ↓refK_ref, ↓dExtN_, ↓gExt_, ↓gSetIx_, ↓itK_some, ↓iRow_, ↓rowIt_tup, ↓rowIt_rl, ↓rowIt_str, ↓iRng1_, ↓iRng2_, ↓iZip_, ↓iEnum_, ↓gNil_, ↓gCons_, ↓gTup_, ↓gTup_ref, ↓gAbs_, ↓gMax2_, ↓gMin2_, ↓gInt_int, ↓gInt_bl, ↓gLe_int, ↓gIsN_non, ↓gIsN_tup, ↓gIsN_int, ↓gIsN_str, ↓gIsN_ref, ↓gIsN_bl, ↓isi_bool_bool, ↓isi_bool_int, ↓isi_int_int, ↓isi_int_bool, ↓isi_tuple_tup, ↓isi_int_tup, ↓isi_bool_tup, ↓isi_str_str, ↓isi_tuple_int, ↓isi_tuple_non, ↓gEq_int, ↓gNe_int, ↓gEq_bl, ↓gNe_bl, ↓gEq_str, ↓gNe_str, ↓gEq_int_non, ↓oNone_, ↓oSome_, ↓gCut_str, ↓gCut_tup, ↓gCut_ref, ↓gCut_rl, ↓rowK_rl, ↓rowK_ref, ↓nCut_, ↓nSorted_, ↓gSorted1_, ↓nRev_, ↓nCatEN_, ↓nRep_, ↓tupK_tup, ↓keysD_two, ↓dtK_dT, ↓gGetT_, ↓gPutT_, ↓nKeysT_, ↓gIsB_, ↓nRepE_, ↓dIxN_, ↓gSumN_, ↓gAllN_, ↓gAnyN_, ↓gAnyI_, ↓gMaxN_, ↓gMax1_rl, ↓gMax1_ref, ↓gMinN_, ↓gMin1_rl, ↓gMin1_ref, ↓gSum_rl, ↓gSum_ref, ↓dChain_, ↓sAug_, ↓gIndex_, ↓dVar_0, ↓dVar_1, ↓dVar_2, ↓dVar_3, ↓dVar_4, ↓dVar_5, ↓dVar_6, ↓dVar_7, ↓dVar_8, ↓dVar_9, ↓dVar_10, ↓dVar_11, ↓dVar_12, ↓dVar_13, ↓dVar_14, ↓dVar_15, ↓dVar_16, ↓dVar_17, ↓dVar_18, ↓dVar_19, ↓dVar_20, ↓dVar_21, ↓dVar_22, ↓dVar_23, ↓dVar_24, ↓dVar_25, ↓sz_0, ↓sz_1, ↓sz_2, ↓sz_3, ↓sz_4, ↓sz_5, ↓sz_6, ↓sz_7, ↓sz_8, ↓sz_9, ↓sz_10, ↓sz_11, ↓sz_12, ↓sz_13, ↓u_dNewT, ↓u_sPutT, ↓u_sSeq, ↓u_sNext, ↓u_sSet, ↓u_sSetN, ↓u_sAsg, ↓u_sIf, ↓u_sRet, ↓u_sRetN, ↓u_sDrop, ↓u_sPar, ↓u_sFor, ↓u_sBreak, ↓u_sCont, ↓u_dC, ↓u_d2, ↓u_d1, ↓u_dTup, ↓u_dNew, ↓u_aNil, ↓u_aCons, ↓u_nLst, ↓u_tAnd', ↓u_tOr', ↓u_tNot', ↓u_dIf, ↓u_gName', ↓u_dCall, ↓u_dB, ↓u_dLenN, ↓u_dTupN, ↓u_dM, ↓u_iNew, ↓u_nLc, ↓u_dN1, ↓u_dCut, ↓u_nCutN, ↓u_nCatNN, ↓u_d2N, ↓u_dNN, ↓u_tYes', ↓u_dS, List.set_cons_zero, List.set_cons_succ, dwipe, ite_true, ite_false, Bool.false_eq_true, Bool.true_eq_false, Bool.not_true, Bool.not_false, beq_self_eq_true, decide_eq_true_eq, Bool.not_eq_true', decide_eq_false_iff_not, mput_same, mput_put, dends, List.length_cons, List.length_nil, true_and, and_true, Nat.reduceAdd, Nat.reduceEqDiff, Int.reduceToNat, ↓x_tabLen, ↓x_fr0, ↓x_fr1, ↓x_kn0, ↓x_kn1, ↓x_map, ↓x_at0, ↓x_at1, ↓x_len, ↓x_row, ↓x_cut, ↓x_tup2, ↓x_tupfr, ↓x_isiT, ↓x_isiK, ↓x_isiF, ↓x_notN, ↓x_getT, ↓x_putT, ↓x_notNM]
  refine ⟨a, b, most, N, rfl, hD, by omega, by omega, by omega, fun v m1 v0 v1 hD1 _ => ?_⟩
  try simp only [↓bK_bl, ↓lstK_lst, ↓intK_int, ↓optK_some, ↓tBool_, ↓dAndV_, ↓dOrV_, ↓dNotV_, ↓gI_, ↓gI0_, ↓gAdd_int, ↓gAdd_str, ↓gAdd_tup, ↓gAdd_ref, ↓gNeg_, ↓gIx_tup, ↓gIx_rl, ↓gIx_ref, ↓gIx_str, ↓atK_0, ↓atK_1, ↓atK_2, ↓atK_3, ↓atK_4, ↓atK_5, ↓atK_6, ↓atK_7, ↓atK_last, ↓setK_0, ↓setK_1, ↓setK_2, ↓setK_3, ↓gLen_str, ↓gLen_tup, ↓gLen_rl, ↓gLen_ref, ↓gTupleOf_tup, ↓gTupleOf_rl, ↓gTupleOf_ref, ↓seqK_tup, ↓seqK_rl, ↓seqK_ref, ↓nListOf_, ↓isLst_ref, ↓gAppend_, ↓gInsert_, ↓isStr_str, ↓strK_str, ↓gStrCount_, ↓dJoinN_, ↓gPopAt_, ↓nRange1_, ↓gPop_, ↓refK_ref, ↓dExtN_, ↓gExt_, ↓gSetIx_, ↓itK_some, ↓iRow_, ↓rowIt_tup, ↓rowIt_rl, ↓rowIt_str, ↓iRng1_, ↓iRng2_, ↓iZip_, ↓iEnum_, ↓gNil_, ↓gCons_, ↓gTup_, ↓gTup_ref, ↓gAbs_, ↓gMax2_, ↓gMin2_, ↓gInt_int, ↓gInt_bl, ↓gLe_int, ↓gIsN_non, ↓gIsN_tup, ↓gIsN_int, ↓gIsN_str, ↓gIsN_ref, ↓gIsN_bl, ↓isi_bool_bool, ↓isi_bool_int, ↓isi_int_int, ↓isi_int_bool, ↓isi_tuple_tup, ↓isi_int_tup, ↓isi_bool_tup, ↓isi_str_str, ↓isi_tuple_int, ↓isi_tuple_non, ↓gEq_int, ↓gNe_int, ↓gEq_bl, ↓gNe_bl, ↓gEq_str, ↓gNe_str, ↓gEq_int_non, ↓oNone_, ↓oSome_, ↓gCut_str, ↓gCut_tup, ↓gCut_ref, ↓gCut_rl, ↓rowK_rl, ↓rowK_ref, ↓nCut_, ↓nSorted_, ↓gSorted1_, ↓nRev_, ↓nCatEN_, ↓nRep_, ↓tupK_tup, ↓keysD_two, ↓dtK_dT, ↓gGetT_, ↓gPutT_, ↓nKeysT_, ↓gIsB_, ↓nRepE_, ↓dIxN_, ↓gSumN_, ↓gAllN_, ↓gAnyN_, ↓gAnyI_, ↓gMaxN_, ↓gMax1_rl, ↓gMax1_ref, ↓gMinN_, ↓gMin1_rl, ↓gMin1_ref, ↓gSum_rl, ↓gSum_ref, ↓dChain_, ↓sAug_, ↓gIndex_, ↓dVar_0, ↓dVar_1, ↓dVar_2, ↓dVar_3, ↓dVar_4, ↓dVar_5, ↓dVar_6, ↓dVar_7, ↓dVar_8, ↓dVar_9, ↓dVar_10, ↓dVar_11, ↓dVar_12, ↓dVar_13, ↓dVar_14, ↓dVar_15, ↓dVar_16, ↓dVar_17, ↓dVar_18, ↓dVar_19, ↓dVar_20, ↓dVar_21, ↓dVar_22, ↓dVar_23, ↓dVar_24, ↓dVar_25, ↓sz_0, ↓sz_1, ↓sz_2, ↓sz_3, ↓sz_4, ↓sz_5, ↓sz_6, ↓sz_7, ↓sz_8, ↓sz_9, ↓sz_10, ↓sz_11, ↓sz_12, ↓sz_13, ↓u_dNewT, ↓u_sPutT, ↓u_sSeq, ↓u_sNext, ↓u_sSet, ↓u_sSetN, ↓u_sAsg, ↓u_sIf, ↓u_sRet, ↓u_sRetN, ↓u_sDrop, ↓u_sPar, ↓u_sFor, ↓u_sBreak, ↓u_sCont, ↓u_dC, ↓u_d2, ↓u_d1, ↓u_dTup, ↓u_dNew, ↓u_aNil, ↓u_aCons, ↓u_nLst, ↓u_tAnd', ↓u_tOr', ↓u_tNot', ↓u_dIf, ↓u_gName', ↓u_dCall, ↓u_dB, ↓u_dLenN, ↓u_dTupN, ↓u_dM, ↓u_iNew, ↓u_nLc, ↓u_dN1, ↓u_dCut, ↓u_nCutN, ↓u_nCatNN, ↓u_d2N, ↓u_dNN, ↓u_tYes', ↓u_dS, List.set_cons_zero, List.set_cons_succ, dwipe, ite_true, ite_false, Bool.false_eq_true, Bool.true_eq_false, Bool.not_true, Bool.not_false, beq_self_eq_true, decide_eq_true_eq, Bool.not_eq_true', decide_eq_false_iff_not, mput_same, mput_put, dends, List.length_cons, List.length_nil, true_and, and_true, Nat.reduceAdd, Nat.reduceEqDiff, Int.reduceToNat, ↓x_tabLen, ↓x_fr0, ↓x_fr1, ↓x_kn0, ↓x_kn1, ↓x_map, ↓x_at0, ↓x_at1, ↓x_len, ↓x_row, ↓x_cut, ↓x_tup2, ↓x_tupfr, ↓x_isiT, ↓x_isiK, ↓x_isiF, ↓x_notN, ↓x_getT, ↓x_putT, ↓x_notNM]
  obtain ⟨n, hn, n1, n2⟩ : ∃ n : Nat, 1 + v = (n : Int) ∧ 1 ≤ n ∧ n ≤ 12 := ⟨(1 + v).toNat, by omega, by omega, by omega⟩
  rw [hn]
  clear hn
  -- behind the rows
  have fromO : ∀ (rs : List (Addr × List Int)) (rw_ g : Addr) (q5 q6 q9 q10 : Option D) (M : Mu), Rws a b rw_ n rs M → TDeck (N + 600) M a b → t_law_table_s9 (dends R) [some (.ref a), some (.int most), some (.int n), some (.ref g), some (.ref rw_), q5, q6, none, none, q9, q10] M := by
    intro rs rw_ g q5 q6 q9 q10 M hW hT
    simp only [t_law_table_s9, ↓bK_bl, ↓lstK_lst, ↓intK_int, ↓optK_some, ↓tBool_, ↓dAndV_, ↓dOrV_, ↓dNotV_, ↓gI_, ↓gI0_, ↓gAdd_int, ↓gAdd_str, ↓gAdd_tup, ↓gAdd_ref, ↓gNeg_, ↓gIx_tup, ↓gIx_rl, ↓gIx_ref, ↓gIx_str, ↓atK_0, ↓atK_1, ↓atK_2, ↓atK_3, ↓atK_4, ↓atK_5, ↓atK_6, ↓atK_7, ↓atK_last, ↓setK_0, ↓setK_1, ↓setK_2, ↓setK_3, ↓gLen_str, ↓gLen_tup, ↓gLen_rl, ↓gLen_ref, ↓gTupleOf_tup, ↓gTupleOf_rl, ↓gTupleOf_ref, ↓seqK_tup, ↓seqK_rl, ↓seqK_ref, ↓nListOf_, ↓isLst_ref, ↓gAppend_, ↓gInsert_, ↓isStr_str, ↓strK_str, ↓gStrCount_, ↓dJoinN_, ↓gPopAt_, ↓nRange1_, ↓gPop_, ↓refK_ref, ↓dExtN_, ↓gExt_, ↓gSetIx_, ↓itK_some, ↓iRow_, ↓rowIt_tup, ↓rowIt_rl, ↓rowIt_str, ↓iRng1_, ↓iRng2_, ↓iZip_, ↓iEnum_, ↓gNil_, ↓gCons_, ↓gTup_, ↓gTup_ref, ↓gAbs_, ↓gMax2_, ↓gMin2_, ↓gInt_int, ↓gInt_bl, ↓gLe_int, ↓gIsN_non, ↓gIsN_tup, ↓gIsN_int, ↓gIsN_str, ↓gIsN_ref, ↓gIsN_bl, ↓isi_bool_bool, ↓isi_bool_int, ↓isi_int_int, ↓isi_int_bool, ↓isi_tuple_tup, ↓isi_int_tup, ↓isi_bool_tup, ↓isi_str_str, ↓isi_tuple_int, ↓isi_tuple_non, ↓gEq_int, ↓gNe_int, ↓gEq_bl, ↓gNe_bl, ↓gEq_str, ↓gNe_str, ↓gEq_int_non, ↓oNone_, ↓oSome_, ↓gCut_str, ↓gCut_tup, ↓gCut_ref, ↓gCut_rl, ↓rowK_rl, ↓rowK_ref, ↓nCut_, ↓nSorted_, ↓gSorted1_, ↓nRev_, ↓nCatEN_, ↓nRep_, ↓tupK_tup, ↓keysD_two, ↓dtK_dT, ↓gGetT_, ↓gPutT_, ↓nKeysT_, ↓gIsB_, ↓nRepE_, ↓dIxN_, ↓gSumN_, ↓gAllN_, ↓gAnyN_, ↓gAnyI_, ↓gMaxN_, ↓gMax1_rl, ↓gMax1_ref, ↓gMinN_, ↓gMin1_rl, ↓gMin1_ref, ↓gSum_rl, ↓gSum_ref, ↓dChain_, ↓sAug_, ↓gIndex_, ↓dVar_0, ↓dVar_1, ↓dVar_2, ↓dVar_3, ↓dVar_4, ↓dVar_5, ↓dVar_6, ↓dVar_7, ↓dVar_8, ↓dVar_9, ↓dVar_10, ↓dVar_11, ↓dVar_12, ↓dVar_13, ↓dVar_14, ↓dVar_15, ↓dVar_16, ↓dVar_17, ↓dVar_18, ↓dVar_19, ↓dVar_20, ↓dVar_21, ↓dVar_22, ↓dVar_23, ↓dVar_24, ↓dVar_25, ↓sz_0, ↓sz_1, ↓sz_2, ↓sz_3, ↓sz_4, ↓sz_5, ↓sz_6, ↓sz_7, ↓sz_8, ↓sz_9, ↓sz_10, ↓sz_11, ↓sz_12, ↓sz_13, ↓u_dNewT, ↓u_sPutT, ↓u_sSeq, ↓u_sNext, ↓u_sSet, ↓u_sSetN, ↓u_sAsg, ↓u_sIf, ↓u_sRet, ↓u_sRetN, ↓u_sDrop, ↓u_sPar, ↓u_sFor, ↓u_sBreak, ↓u_sCont, ↓u_dC, ↓u_d2, ↓u_d1, ↓u_dTup, ↓u_dNew, ↓u_aNil, ↓u_aCons, ↓u_nLst, ↓u_tAnd', ↓u_tOr', ↓u_tNot', ↓u_dIf, ↓u_gName', ↓u_dCall, ↓u_dB, ↓u_dLenN, ↓u_dTupN, ↓u_dM, ↓u_iNew, ↓u_nLc, ↓u_dN1, ↓u_dCut, ↓u_nCutN, ↓u_nCatNN, ↓u_d2N, ↓u_dNN, ↓u_tYes', ↓u_dS, List.set_cons_zero, List.set_cons_succ, dwipe, ite_true, ite_false, Bool.false_eq_true, Bool.true_eq_false, Bool.not_true, Bool.not_false, beq_self_eq_true, decide_eq_true_eq, Bool.not_eq_true', decide_eq_false_iff_not, mput_same, mput_put, dends, List.length_cons, List.length_nil, true_and, and_true, Nat.reduceAdd, Nat.reduceEqDiff, Int.reduceToNat, ↓x_tabLen, ↓x_fr0, ↓x_fr1, ↓x_kn0, ↓x_kn1, ↓x_map, ↓x_at0, ↓x_at1, ↓x_len, ↓x_row, ↓x_cut, ↓x_tup2, ↓x_tupfr, ↓x_isiT, ↓x_isiK, ↓x_isiF, ↓x_notN, ↓x_getT, ↓x_putT, ↓x_notNM]
    refine ⟨by omega, fun od hod => ?_⟩
    rw [show ((n : Nat) : Int).toNat = n by omega]
    have odw := hW.fresh hod
    have oda := hT.na hod
    have odb := hT.nb hod
    have hW := hW.new (o := .lst (rngItems 0 n)) hod
    have hT := hT.new (o := .lst (rngItems 0 n)) hod
    have hO : ∃ os : List Int, mput M od (.lst (rngItems 0 n)) od = some (.lst (os.map D.int)) ∧ os.length = n ∧ ∀ z ∈ os, 0 ≤ z ∧ z < n := by
      refine ⟨(List.range n).map fun (j : Nat) => (j : Int), ?_, by simp, ?_⟩
      · rw [mput_same, rng_map, List.map_map]
        rfl
      · intro z hz
        obtain ⟨j, hj, rfl⟩ := List.mem_map.mp hz
        rw [List.mem_range] at hj
        omega
    generalize mput M od (.lst (rngItems 0 n)) = M1 at hW hT hO ⊢
    clear hod
    simp only [t_law_table_s10, ↓bK_bl, ↓lstK_lst, ↓intK_int, ↓optK_some, ↓tBool_, ↓dAndV_, ↓dOrV_, ↓dNotV_, ↓gI_, ↓gI0_, ↓gAdd_int, ↓gAdd_str, ↓gAdd_tup, ↓gAdd_ref, ↓gNeg_, ↓gIx_tup, ↓gIx_rl, ↓gIx_ref, ↓gIx_str, ↓atK_0, ↓atK_1, ↓atK_2, ↓atK_3, ↓atK_4, ↓atK_5, ↓atK_6, ↓atK_7, ↓atK_last, ↓setK_0, ↓setK_1, ↓setK_2, ↓setK_3, ↓gLen_str, ↓gLen_tup, ↓gLen_rl, ↓gLen_ref, ↓gTupleOf_tup, ↓gTupleOf_rl, ↓gTupleOf_ref, ↓seqK_tup, ↓seqK_rl, ↓seqK_ref, ↓nListOf_, ↓isLst_ref, ↓gAppend_, ↓gInsert_, ↓isStr_str, ↓strK_str, ↓gStrCount_, ↓dJoinN_, ↓gPopAt_, ↓nRange1_, ↓gPop_, ↓refK_ref, ↓dExtN_, ↓gExt_, ↓gSetIx_, ↓itK_some, ↓iRow_, ↓rowIt_tup, ↓rowIt_rl, ↓rowIt_str, ↓iRng1_, ↓iRng2_, ↓iZip_, ↓iEnum_, ↓gNil_, ↓gCons_, ↓gTup_, ↓gTup_ref, ↓gAbs_, ↓gMax2_, ↓gMin2_, ↓gInt_int, ↓gInt_bl, ↓gLe_int, ↓gIsN_non, ↓gIsN_tup, ↓gIsN_int, ↓gIsN_str, ↓gIsN_ref, ↓gIsN_bl, ↓isi_bool_bool, ↓isi_bool_int, ↓isi_int_int, ↓isi_int_bool, ↓isi_tuple_tup, ↓isi_int_tup, ↓isi_bool_tup, ↓isi_str_str, ↓isi_tuple_int, ↓isi_tuple_non, ↓gEq_int, ↓gNe_int, ↓gEq_bl, ↓gNe_bl, ↓gEq_str, ↓gNe_str, ↓gEq_int_non, ↓oNone_, ↓oSome_, ↓gCut_str, ↓gCut_tup, ↓gCut_ref, ↓gCut_rl, ↓rowK_rl, ↓rowK_ref, ↓nCut_, ↓nSorted_, ↓gSorted1_, ↓nRev_, ↓nCatEN_, ↓nRep_, ↓tupK_tup, ↓keysD_two, ↓dtK_dT, ↓gGetT_, ↓gPutT_, ↓nKeysT_, ↓gIsB_, ↓nRepE_, ↓dIxN_, ↓gSumN_, ↓gAllN_, ↓gAnyN_, ↓gAnyI_, ↓gMaxN_, ↓gMax1_rl, ↓gMax1_ref, ↓gMinN_, ↓gMin1_rl, ↓gMin1_ref, ↓gSum_rl, ↓gSum_ref, ↓dChain_, ↓sAug_, ↓gIndex_, ↓dVar_0, ↓dVar_1, ↓dVar_2, ↓dVar_3, ↓dVar_4, ↓dVar_5, ↓dVar_6, ↓dVar_7, ↓dVar_8, ↓dVar_9, ↓dVar_10, ↓dVar_11, ↓dVar_12, ↓dVar_13, ↓dVar_14, ↓dVar_15, ↓dVar_16, ↓dVar_17, ↓dVar_18, ↓dVar_19, ↓dVar_20, ↓dVar_21, ↓dVar_22, ↓dVar_23, ↓dVar_24, ↓dVar_25, ↓sz_0, ↓sz_1, ↓sz_2, ↓sz_3, ↓sz_4, ↓sz_5, ↓sz_6, ↓sz_7, ↓sz_8, ↓sz_9, ↓sz_10, ↓sz_11, ↓sz_12, ↓sz_13, ↓u_dNewT, ↓u_sPutT, ↓u_sSeq, ↓u_sNext, ↓u_sSet, ↓u_sSetN, ↓u_sAsg, ↓u_sIf, ↓u_sRet, ↓u_sRetN, ↓u_sDrop, ↓u_sPar, ↓u_sFor, ↓u_sBreak, ↓u_sCont, ↓u_dC, ↓u_d2, ↓u_d1, ↓u_dTup, ↓u_dNew, ↓u_aNil, ↓u_aCons, ↓u_nLst, ↓u_tAnd', ↓u_tOr', ↓u_tNot', ↓u_dIf, ↓u_gName', ↓u_dCall, ↓u_dB, ↓u_dLenN, ↓u_dTupN, ↓u_dM, ↓u_iNew, ↓u_nLc, ↓u_dN1, ↓u_dCut, ↓u_nCutN, ↓u_nCatNN, ↓u_d2N, ↓u_dNN, ↓u_tYes', ↓u_dS, List.set_cons_zero, List.set_cons_succ, dwipe, ite_true, ite_false, Bool.false_eq_true, Bool.true_eq_false, Bool.not_true, Bool.not_false, beq_self_eq_true, decide_eq_true_eq, Bool.not_eq_true', decide_eq_false_iff_not, mput_same, mput_put, dends, List.length_cons, List.length_nil, true_and, and_true, Nat.reduceAdd, Nat.reduceEqDiff, Int.reduceToNat, ↓x_tabLen, ↓x_fr0, ↓x_fr1, ↓x_kn0, ↓x_kn1, ↓x_map, ↓x_at0, ↓x_at1, ↓x_len, ↓x_row, ↓x_cut, ↓x_tup2, ↓x_tupfr, ↓x_isiT, ↓x_isiK, ↓x_isiF, ↓x_notN, ↓x_getT, ↓x_putT, ↓x_notNM]
    refine ⟨by omega, ?_⟩
    rw [show ((n : Nat) : Int).toNat = n by omega, rng_map]
    refine lc_ind _ (fun xs acc M => ∃ (os zs : List Int), acc = zs.map D.int ∧ zs.length + xs.length = n ∧ os.length = xs.length ∧ (∀ z ∈ os, 0 ≤ z ∧ z < n) ∧ (∀ z ∈ zs, 0 ≤ z ∧ z < n) ∧ M od = some (.lst (os.map D.int)) ∧ Rws a b rw_ n rs M ∧ TDeck (N + 600 + zs.length) M a b) ?_ ?_ _ _ _ ?_
    · rintro acc M2 ⟨os, zs, rfl, h1, h2, h3, h4, h5, h6, h7⟩
      refine ⟨trivial, ?_⟩
      simp only [List.length_nil, Nat.add_zero] at h1
      intro sh hsh
      have hS : mput M2 sh (.lst (zs.map D.int)) sh = some (.lst (zs.map D.int)) := mput_same
      have h6 := h6.new (o := .lst (zs.map D.int)) hsh
      have h7 := h7.new (o := .lst (zs.map D.int)) hsh
      generalize mput M2 sh (.lst (zs.map D.int)) = M3 at hS h6 h7 ⊢
      simp only [t_law_table_s11, ↓bK_bl, ↓lstK_lst, ↓intK_int, ↓optK_some, ↓tBool_, ↓dAndV_, ↓dOrV_, ↓dNotV_, ↓gI_, ↓gI0_, ↓gAdd_int, ↓gAdd_str, ↓gAdd_tup, ↓gAdd_ref, ↓gNeg_, ↓gIx_tup, ↓gIx_rl, ↓gIx_ref, ↓gIx_str, ↓atK_0, ↓atK_1, ↓atK_2, ↓atK_3, ↓atK_4, ↓atK_5, ↓atK_6, ↓atK_7, ↓atK_last, ↓setK_0, ↓setK_1, ↓setK_2, ↓setK_3, ↓gLen_str, ↓gLen_tup, ↓gLen_rl, ↓gLen_ref, ↓gTupleOf_tup, ↓gTupleOf_rl, ↓gTupleOf_ref, ↓seqK_tup, ↓seqK_rl, ↓seqK_ref, ↓nListOf_, ↓isLst_ref, ↓gAppend_, ↓gInsert_, ↓isStr_str, ↓strK_str, ↓gStrCount_, ↓dJoinN_, ↓gPopAt_, ↓nRange1_, ↓gPop_, ↓refK_ref, ↓dExtN_, ↓gExt_, ↓gSetIx_, ↓itK_some, ↓iRow_, ↓rowIt_tup, ↓rowIt_rl, ↓rowIt_str, ↓iRng1_, ↓iRng2_, ↓iZip_, ↓iEnum_, ↓gNil_, ↓gCons_, ↓gTup_, ↓gTup_ref, ↓gAbs_, ↓gMax2_, ↓gMin2_, ↓gInt_int, ↓gInt_bl, ↓gLe_int, ↓gIsN_non, ↓gIsN_tup, ↓gIsN_int, ↓gIsN_str, ↓gIsN_ref, ↓gIsN_bl, ↓isi_bool_bool, ↓isi_bool_int, ↓isi_int_int, ↓isi_int_bool, ↓isi_tuple_tup, ↓isi_int_tup, ↓isi_bool_tup, ↓isi_str_str, ↓isi_tuple_int, ↓isi_tuple_non, ↓gEq_int, ↓gNe_int, ↓gEq_bl, ↓gNe_bl, ↓gEq_str, ↓gNe_str, ↓gEq_int_non, ↓oNone_, ↓oSome_, ↓gCut_str, ↓gCut_tup, ↓gCut_ref, ↓gCut_rl, ↓rowK_rl, ↓rowK_ref, ↓nCut_, ↓nSorted_, ↓gSorted1_, ↓nRev_, ↓nCatEN_, ↓nRep_, ↓tupK_tup, ↓keysD_two, ↓dtK_dT, ↓gGetT_, ↓gPutT_, ↓nKeysT_, ↓gIsB_, ↓nRepE_, ↓dIxN_, ↓gSumN_, ↓gAllN_, ↓gAnyN_, ↓gAnyI_, ↓gMaxN_, ↓gMax1_rl, ↓gMax1_ref, ↓gMinN_, ↓gMin1_rl, ↓gMin1_ref, ↓gSum_rl, ↓gSum_ref, ↓dChain_, ↓sAug_, ↓gIndex_, ↓dVar_0, ↓dVar_1, ↓dVar_2, ↓dVar_3, ↓dVar_4, ↓dVar_5, ↓dVar_6, ↓dVar_7, ↓dVar_8, ↓dVar_9, ↓dVar_10, ↓dVar_11, ↓dVar_12, ↓dVar_13, ↓dVar_14, ↓dVar_15, ↓dVar_16, ↓dVar_17, ↓dVar_18, ↓dVar_19, ↓dVar_20, ↓dVar_21, ↓dVar_22, ↓dVar_23, ↓dVar_24, ↓dVar_25, ↓sz_0, ↓sz_1, ↓sz_2, ↓sz_3, ↓sz_4, ↓sz_5, ↓sz_6, ↓sz_7, ↓sz_8, ↓sz_9, ↓sz_10, ↓sz_11, ↓sz_12, ↓sz_13, ↓u_dNewT, ↓u_sPutT, ↓u_sSeq, ↓u_sNext, ↓u_sSet, ↓u_sSetN, ↓u_sAsg, ↓u_sIf, ↓u_sRet, ↓u_sRetN, ↓u_sDrop, ↓u_sPar, ↓u_sFor, ↓u_sBreak, ↓u_sCont, ↓u_dC, ↓u_d2, ↓u_d1, ↓u_dTup, ↓u_dNew, ↓u_aNil, ↓u_aCons, ↓u_nLst, ↓u_tAnd', ↓u_tOr', ↓u_tNot', ↓u_dIf, ↓u_gName', ↓u_dCall, ↓u_dB, ↓u_dLenN, ↓u_dTupN, ↓u_dM, ↓u_iNew, ↓u_nLc, ↓u_dN1, ↓u_dCut, ↓u_nCutN, ↓u_nCatNN, ↓u_d2N, ↓u_dNN, ↓u_tYes', ↓u_dS, List.set_cons_zero, List.set_cons_succ, dwipe, ite_true, ite_false, Bool.false_eq_true, Bool.true_eq_false, Bool.not_true, Bool.not_false, beq_self_eq_true, decide_eq_true_eq, Bool.not_eq_true', decide_eq_false_iff_not, mput_same, mput_put, dends, List.length_cons, List.length_nil, true_and, and_true, Nat.reduceAdd, Nat.reduceEqDiff, Int.reduceToNat, ↓x_tabLen, ↓x_fr0, ↓x_fr1, ↓x_kn0, ↓x_kn1, ↓x_map, ↓x_at0, ↓x_at1, ↓x_len, ↓x_row, ↓x_cut, ↓x_tup2, ↓x_tupfr, ↓x_isiT, ↓x_isiK, ↓x_isiF, ↓x_notN, ↓x_getT, ↓x_putT, ↓x_notNM]
      rw [rowIt_lst hS, itK_some]
      have cell : ∀ z, 0 ≤ z → z < (n : Int) → ∃ r : List Int, RowOk n r ∧ ∀ (K : D → Prop), (∀ c, M3 c = some (.lst (r.map D.int)) → K (.ref c)) → atK (rs.map fun p => D.ref p.1) z K := by
        intro z z0 z1
        have hz : z.toNat < rs.length := by rw [h6.len]; omega
        have hr := h6.row _ (List.getElem_mem hz)
        exact ⟨(rs[z.toNat]).2, hr.2.2.2.2, fun K hK => atK_of (n := z.toNat) (x := .ref (rs[z.toNat]).1) (by omega) (by simp [hz]) (hK _ hr.1)⟩
      -- the rows, one by one
      refine lc_ind D.int (fun xs acc M => M3 = M ∧ (∀ z ∈ xs, 0 ≤ z ∧ z < (n : Int)) ∧ ∃ t : List (List Int), acc = t.map (fun r => D.tup (r.map D.int)) ∧ t.length + xs.length = n ∧ ∀ r ∈ t, RowOk n r) ?_ ?_ _ _ _ ⟨rfl, h4, [], rfl, by simpa using h1, by simp⟩
      · rintro acc _ ⟨rfl, _, t, rfl, ht, hr⟩
        refine ⟨hS, ?_⟩
        simp only [List.length_nil, Nat.add_zero] at ht
        exact fin_of (hR n t _ ⟨⟨n1, n2⟩, ht, hr⟩ (h7.mono (by omega)))
      · rintro k xs acc _ W hW2 ⟨rfl, hx, t, rfl, ht, hr⟩
        have hk := hx k List.mem_cons_self
        refine ⟨hS, ?_⟩
        try simp only [↓bK_bl, ↓lstK_lst, ↓intK_int, ↓optK_some, ↓tBool_, ↓dAndV_, ↓dOrV_, ↓dNotV_, ↓gI_, ↓gI0_, ↓gAdd_int, ↓gAdd_str, ↓gAdd_tup, ↓gAdd_ref, ↓gNeg_, ↓gIx_tup, ↓gIx_rl, ↓gIx_ref, ↓gIx_str, ↓atK_0, ↓atK_1, ↓atK_2, ↓atK_3, ↓atK_4, ↓atK_5, ↓atK_6, ↓atK_7, ↓atK_last, ↓setK_0, ↓setK_1, ↓setK_2, ↓setK_3, ↓gLen_str, ↓gLen_tup, ↓gLen_rl, ↓gLen_ref, ↓gTupleOf_tup, ↓gTupleOf_rl, ↓gTupleOf_ref, ↓seqK_tup, ↓seqK_rl, ↓seqK_ref, ↓nListOf_, ↓isLst_ref, ↓gAppend_, ↓gInsert_, ↓isStr_str, ↓strK_str, ↓gStrCount_, ↓dJoinN_, ↓gPopAt_, ↓nRange1_, ↓gPop_, ↓refK_ref, ↓dExtN_, ↓gExt_, ↓gSetIx_, ↓itK_some, ↓iRow_, ↓rowIt_tup, ↓rowIt_rl, ↓rowIt_str, ↓iRng1_, ↓iRng2_, ↓iZip_, ↓iEnum_, ↓gNil_, ↓gCons_, ↓gTup_, ↓gTup_ref, ↓gAbs_, ↓gMax2_, ↓gMin2_, ↓gInt_int, ↓gInt_bl, ↓gLe_int, ↓gIsN_non, ↓gIsN_tup, ↓gIsN_int, ↓gIsN_str, ↓gIsN_ref, ↓gIsN_bl, ↓isi_bool_bool, ↓isi_bool_int, ↓isi_int_int, ↓isi_int_bool, ↓isi_tuple_tup, ↓isi_int_tup, ↓isi_bool_tup, ↓isi_str_str, ↓isi_tuple_int, ↓isi_tuple_non, ↓gEq_int, ↓gNe_int, ↓gEq_bl, ↓gNe_bl, ↓gEq_str, ↓gNe_str, ↓gEq_int_non, ↓oNone_, ↓oSome_, ↓gCut_str, ↓gCut_tup, ↓gCut_ref, ↓gCut_rl, ↓rowK_rl, ↓rowK_ref, ↓nCut_, ↓nSorted_, ↓gSorted1_, ↓nRev_, ↓nCatEN_, ↓nRep_, ↓tupK_tup, ↓keysD_two, ↓dtK_dT, ↓gGetT_, ↓gPutT_, ↓nKeysT_, ↓gIsB_, ↓nRepE_, ↓dIxN_, ↓gSumN_, ↓gAllN_, ↓gAnyN_, ↓gAnyI_, ↓gMaxN_, ↓gMax1_rl, ↓gMax1_ref, ↓gMinN_, ↓gMin1_rl, ↓gMin1_ref, ↓gSum_rl, ↓gSum_ref, ↓dChain_, ↓sAug_, ↓gIndex_, ↓dVar_0, ↓dVar_1, ↓dVar_2, ↓dVar_3, ↓dVar_4, ↓dVar_5, ↓dVar_6, ↓dVar_7, ↓dVar_8, ↓dVar_9, ↓dVar_10, ↓dVar_11, ↓dVar_12, ↓dVar_13, ↓dVar_14, ↓dVar_15, ↓dVar_16, ↓dVar_17, ↓dVar_18, ↓dVar_19, ↓dVar_20, ↓dVar_21, ↓dVar_22, ↓dVar_23, ↓dVar_24, ↓dVar_25, ↓sz_0, ↓sz_1, ↓sz_2, ↓sz_3, ↓sz_4, ↓sz_5, ↓sz_6, ↓sz_7, ↓sz_8, ↓sz_9, ↓sz_10, ↓sz_11, ↓sz_12, ↓sz_13, ↓u_dNewT, ↓u_sPutT, ↓u_sSeq, ↓u_sNext, ↓u_sSet, ↓u_sSetN, ↓u_sAsg, ↓u_sIf, ↓u_sRet, ↓u_sRetN, ↓u_sDrop, ↓u_sPar, ↓u_sFor, ↓u_sBreak, ↓u_sCont, ↓u_dC, ↓u_d2, ↓u_d1, ↓u_dTup, ↓u_dNew, ↓u_aNil, ↓u_aCons, ↓u_nLst, ↓u_tAnd', ↓u_tOr', ↓u_tNot', ↓u_dIf, ↓u_gName', ↓u_dCall, ↓u_dB, ↓u_dLenN, ↓u_dTupN, ↓u_dM, ↓u_iNew, ↓u_nLc, ↓u_dN1, ↓u_dCut, ↓u_nCutN, ↓u_nCatNN, ↓u_d2N, ↓u_dNN, ↓u_tYes', ↓u_dS, List.set_cons_zero, List.set_cons_succ, dwipe, ite_true, ite_false, Bool.false_eq_true, Bool.true_eq_false, Bool.not_true, Bool.not_false, beq_self_eq_true, decide_eq_true_eq, Bool.not_eq_true', decide_eq_false_iff_not, mput_same, mput_put, dends, List.length_cons, List.length_nil, true_and, and_true, Nat.reduceAdd, Nat.reduceEqDiff, Int.reduceToNat, ↓x_tabLen, ↓x_fr0, ↓x_fr1, ↓x_kn0, ↓x_kn1, ↓x_map, ↓x_at0, ↓x_at1, ↓x_len, ↓x_row, ↓x_cut, ↓x_tup2, ↓x_tupfr, ↓x_isiT, ↓x_isiK, ↓x_isiF, ↓x_notN, ↓x_getT, ↓x_putT, ↓x_notNM]
        rw [rowIt_lst hS, itK_some]
        obtain ⟨r, hrok, hcell⟩ := cell k hk.1 hk.2
        refine lc_ind D.int (fun ys acc2 M => M3 = M ∧ (∀ z ∈ ys, 0 ≤ z ∧ z < (n : Int)) ∧ ∃ us : List Int, acc2 = us.map D.int ∧ us.length + ys.length = n ∧ ∀ z ∈ us, 0 ≤ z ∧ z ≤ 9) ?_ ?_ _ _ _ ⟨rfl, h4, [], rfl, by simpa using h1, by simp⟩
        · rintro acc2 _ ⟨rfl, _, us, rfl, hu, hz⟩
          refine ⟨hS, by rw [List.length_map]; simp at ht; omega, ?_⟩
          simp only [List.length_nil, Nat.add_zero] at hu
          refine hW2 _ _ ⟨rfl, fun z hz => hx z (List.mem_cons_of_mem _ hz), t ++ [us], by simp, by simp at ht ⊢; omega, ?_⟩
          intro r' hr'
          rcases List.mem_append.mp hr' with h | h
          · exact hr r' h
          · simp at h
            subst h
            exact ⟨hu, hz⟩
        · rintro j ys acc2 _ W2 hW3 ⟨rfl, hy, us, rfl, hu, hz⟩
          have hj := hy j List.mem_cons_self
          refine ⟨hS, ?_⟩
          simp only [h6.rwL, ↓bK_bl, ↓lstK_lst, ↓intK_int, ↓optK_some, ↓tBool_, ↓dAndV_, ↓dOrV_, ↓dNotV_, ↓gI_, ↓gI0_, ↓gAdd_int, ↓gAdd_str, ↓gAdd_tup, ↓gAdd_ref, ↓gNeg_, ↓gIx_tup, ↓gIx_rl, ↓gIx_ref, ↓gIx_str, ↓atK_0, ↓atK_1, ↓atK_2, ↓atK_3, ↓atK_4, ↓atK_5, ↓atK_6, ↓atK_7, ↓atK_last, ↓setK_0, ↓setK_1, ↓setK_2, ↓setK_3, ↓gLen_str, ↓gLen_tup, ↓gLen_rl, ↓gLen_ref, ↓gTupleOf_tup, ↓gTupleOf_rl, ↓gTupleOf_ref, ↓seqK_tup, ↓seqK_rl, ↓seqK_ref, ↓nListOf_, ↓isLst_ref, ↓gAppend_, ↓gInsert_, ↓isStr_str, ↓strK_str, ↓gStrCount_, ↓dJoinN_, ↓gPopAt_, ↓nRange1_, ↓gPop_, ↓refK_ref, ↓dExtN_, ↓gExt_, ↓gSetIx_, ↓itK_some, ↓iRow_, ↓rowIt_tup, ↓rowIt_rl, ↓rowIt_str, ↓iRng1_, ↓iRng2_, ↓iZip_, ↓iEnum_, ↓gNil_, ↓gCons_, ↓gTup_, ↓gTup_ref, ↓gAbs_, ↓gMax2_, ↓gMin2_, ↓gInt_int, ↓gInt_bl, ↓gLe_int, ↓gIsN_non, ↓gIsN_tup, ↓gIsN_int, ↓gIsN_str, ↓gIsN_ref, ↓gIsN_bl, ↓isi_bool_bool, ↓isi_bool_int, ↓isi_int_int, ↓isi_int_bool, ↓isi_tuple_tup, ↓isi_int_tup, ↓isi_bool_tup, ↓isi_str_str, ↓isi_tuple_int, ↓isi_tuple_non, ↓gEq_int, ↓gNe_int, ↓gEq_bl, ↓gNe_bl, ↓gEq_str, ↓gNe_str, ↓gEq_int_non, ↓oNone_, ↓oSome_, ↓gCut_str, ↓gCut_tup, ↓gCut_ref, ↓gCut_rl, ↓rowK_rl, ↓rowK_ref, ↓nCut_, ↓nSorted_, ↓gSorted1_, ↓nRev_, ↓nCatEN_, ↓nRep_, ↓tupK_tup, ↓keysD_two, ↓dtK_dT, ↓gGetT_, ↓gPutT_, ↓nKeysT_, ↓gIsB_, ↓nRepE_, ↓dIxN_, ↓gSumN_, ↓gAllN_, ↓gAnyN_, ↓gAnyI_, ↓gMaxN_, ↓gMax1_rl, ↓gMax1_ref, ↓gMinN_, ↓gMin1_rl, ↓gMin1_ref, ↓gSum_rl, ↓gSum_ref, ↓dChain_, ↓sAug_, ↓gIndex_, ↓dVar_0, ↓dVar_1, ↓dVar_2, ↓dVar_3, ↓dVar_4, ↓dVar_5, ↓dVar_6, ↓dVar_7, ↓dVar_8, ↓dVar_9, ↓dVar_10, ↓dVar_11, ↓dVar_12, ↓dVar_13, ↓dVar_14, ↓dVar_15, ↓dVar_16, ↓dVar_17, ↓dVar_18, ↓dVar_19, ↓dVar_20, ↓dVar_21, ↓dVar_22, ↓dVar_23, ↓dVar_24, ↓dVar_25, ↓sz_0, ↓sz_1, ↓sz_2, ↓sz_3, ↓sz_4, ↓sz_5, ↓sz_6, ↓sz_7, ↓sz_8, ↓sz_9, ↓sz_10, ↓sz_11, ↓sz_12, ↓sz_13, ↓u_dNewT, ↓u_sPutT, ↓u_sSeq, ↓u_sNext, ↓u_sSet, ↓u_sSetN, ↓u_sAsg, ↓u_sIf, ↓u_sRet, ↓u_sRetN, ↓u_sDrop, ↓u_sPar, ↓u_sFor, ↓u_sBreak, ↓u_sCont, ↓u_dC, ↓u_d2, ↓u_d1, ↓u_dTup, ↓u_dNew, ↓u_aNil, ↓u_aCons, ↓u_nLst, ↓u_tAnd', ↓u_tOr', ↓u_tNot', ↓u_dIf, ↓u_gName', ↓u_dCall, ↓u_dB, ↓u_dLenN, ↓u_dTupN, ↓u_dM, ↓u_iNew, ↓u_nLc, ↓u_dN1, ↓u_dCut, ↓u_nCutN, ↓u_nCatNN, ↓u_d2N, ↓u_dNN, ↓u_tYes', ↓u_dS, List.set_cons_zero, List.set_cons_succ, dwipe, ite_true, ite_false, Bool.false_eq_true, Bool.true_eq_false, Bool.not_true, Bool.not_false, beq_self_eq_true, decide_eq_true_eq, Bool.not_eq_true', decide_eq_false_iff_not, mput_same, mput_put, dends, List.length_cons, List.length_nil, true_and, and_true, Nat.reduceAdd, Nat.reduceEqDiff, Int.reduceToNat, ↓x_tabLen, ↓x_fr0, ↓x_fr1, ↓x_kn0, ↓x_kn1, ↓x_map, ↓x_at0, ↓x_at1, ↓x_len, ↓x_row, ↓x_cut, ↓x_tup2, ↓x_tupfr, ↓x_isiT, ↓x_isiK, ↓x_isiF, ↓x_notN, ↓x_getT, ↓x_putT, ↓x_notNM]
          refine hcell _ fun c hc => ?_
          simp only [hc, ↓bK_bl, ↓lstK_lst, ↓intK_int, ↓optK_some, ↓tBool_, ↓dAndV_, ↓dOrV_, ↓dNotV_, ↓gI_, ↓gI0_, ↓gAdd_int, ↓gAdd_str, ↓gAdd_tup, ↓gAdd_ref, ↓gNeg_, ↓gIx_tup, ↓gIx_rl, ↓gIx_ref, ↓gIx_str, ↓atK_0, ↓atK_1, ↓atK_2, ↓atK_3, ↓atK_4, ↓atK_5, ↓atK_6, ↓atK_7, ↓atK_last, ↓setK_0, ↓setK_1, ↓setK_2, ↓setK_3, ↓gLen_str, ↓gLen_tup, ↓gLen_rl, ↓gLen_ref, ↓gTupleOf_tup, ↓gTupleOf_rl, ↓gTupleOf_ref, ↓seqK_tup, ↓seqK_rl, ↓seqK_ref, ↓nListOf_, ↓isLst_ref, ↓gAppend_, ↓gInsert_, ↓isStr_str, ↓strK_str, ↓gStrCount_, ↓dJoinN_, ↓gPopAt_, ↓nRange1_, ↓gPop_, ↓refK_ref, ↓dExtN_, ↓gExt_, ↓gSetIx_, ↓itK_some, ↓iRow_, ↓rowIt_tup, ↓rowIt_rl, ↓rowIt_str, ↓iRng1_, ↓iRng2_, ↓iZip_, ↓iEnum_, ↓gNil_, ↓gCons_, ↓gTup_, ↓gTup_ref, ↓gAbs_, ↓gMax2_, ↓gMin2_, ↓gInt_int, ↓gInt_bl, ↓gLe_int, ↓gIsN_non, ↓gIsN_tup, ↓gIsN_int, ↓gIsN_str, ↓gIsN_ref, ↓gIsN_bl, ↓isi_bool_bool, ↓isi_bool_int, ↓isi_int_int, ↓isi_int_bool, ↓isi_tuple_tup, ↓isi_int_tup, ↓isi_bool_tup, ↓isi_str_str, ↓isi_tuple_int, ↓isi_tuple_non, ↓gEq_int, ↓gNe_int, ↓gEq_bl, ↓gNe_bl, ↓gEq_str, ↓gNe_str, ↓gEq_int_non, ↓oNone_, ↓oSome_, ↓gCut_str, ↓gCut_tup, ↓gCut_ref, ↓gCut_rl, ↓rowK_rl, ↓rowK_ref, ↓nCut_, ↓nSorted_, ↓gSorted1_, ↓nRev_, ↓nCatEN_, ↓nRep_, ↓tupK_tup, ↓keysD_two, ↓dtK_dT, ↓gGetT_, ↓gPutT_, ↓nKeysT_, ↓gIsB_, ↓nRepE_, ↓dIxN_, ↓gSumN_, ↓gAllN_, ↓gAnyN_, ↓gAnyI_, ↓gMaxN_, ↓gMax1_rl, ↓gMax1_ref, ↓gMinN_, ↓gMin1_rl, ↓gMin1_ref, ↓gSum_rl, ↓gSum_ref, ↓dChain_, ↓sAug_, ↓gIndex_, ↓dVar_0, ↓dVar_1, ↓dVar_2, ↓dVar_3, ↓dVar_4, ↓dVar_5, ↓dVar_6, ↓dVar_7, ↓dVar_8, ↓dVar_9, ↓dVar_10, ↓dVar_11, ↓dVar_12, ↓dVar_13, ↓dVar_14, ↓dVar_15, ↓dVar_16, ↓dVar_17, ↓dVar_18, ↓dVar_19, ↓dVar_20, ↓dVar_21, ↓dVar_22, ↓dVar_23, ↓dVar_24, ↓dVar_25, ↓sz_0, ↓sz_1, ↓sz_2, ↓sz_3, ↓sz_4, ↓sz_5, ↓sz_6, ↓sz_7, ↓sz_8, ↓sz_9, ↓sz_10, ↓sz_11, ↓sz_12, ↓sz_13, ↓u_dNewT, ↓u_sPutT, ↓u_sSeq, ↓u_sNext, ↓u_sSet, ↓u_sSetN, ↓u_sAsg, ↓u_sIf, ↓u_sRet, ↓u_sRetN, ↓u_sDrop, ↓u_sPar, ↓u_sFor, ↓u_sBreak, ↓u_sCont, ↓u_dC, ↓u_d2, ↓u_d1, ↓u_dTup, ↓u_dNew, ↓u_aNil, ↓u_aCons, ↓u_nLst, ↓u_tAnd', ↓u_tOr', ↓u_tNot', ↓u_dIf, ↓u_gName', ↓u_dCall, ↓u_dB, ↓u_dLenN, ↓u_dTupN, ↓u_dM, ↓u_iNew, ↓u_nLc, ↓u_dN1, ↓u_dCut, ↓u_nCutN, ↓u_nCatNN, ↓u_d2N, ↓u_dNN, ↓u_tYes', ↓u_dS, List.set_cons_zero, List.set_cons_succ, dwipe, ite_true, ite_false, Bool.false_eq_true, Bool.true_eq_false, Bool.not_true, Bool.not_false, beq_self_eq_true, decide_eq_true_eq, Bool.not_eq_true', decide_eq_false_iff_not, mput_same, mput_put, dends, List.length_cons, List.length_nil, true_and, and_true, Nat.reduceAdd, Nat.reduceEqDiff, Int.reduceToNat, ↓x_tabLen, ↓x_fr0, ↓x_fr1, ↓x_kn0, ↓x_kn1, ↓x_map, ↓x_at0, ↓x_at1, ↓x_len, ↓x_row, ↓x_cut, ↓x_tup2, ↓x_tupfr, ↓x_isiT, ↓x_isiK, ↓x_isiF, ↓x_notN, ↓x_getT, ↓x_putT, ↓x_notNM]
          refine at_ints hj.1 (by rw [hrok.1]; exact hj.2) fun w hw => ?_
          refine ⟨by rw [List.length_map]; simp at hu; omega, hW3 _ _ ⟨rfl, fun z hz => hy z (List.mem_cons_of_mem _ hz), us ++ [w], by simp, by simp at hu ⊢; omega, ?_⟩⟩
          intro z hz'
          rcases List.mem_append.mp hz' with h | h
          · exact hz z h
          · simp at h
            subst h
            exact hrok.2 _ hw
    · rintro x xs acc M2 W hW2 ⟨os, zs, rfl, h1, h2, h3, h4, h5, h6, h7⟩
      refine ⟨trivial, ?_⟩
      simp only [h5, ↓bK_bl, ↓lstK_lst, ↓intK_int, ↓optK_some, ↓tBool_, ↓dAndV_, ↓dOrV_, ↓dNotV_, ↓gI_, ↓gI0_, ↓gAdd_int, ↓gAdd_str, ↓gAdd_tup, ↓gAdd_ref, ↓gNeg_, ↓gIx_tup, ↓gIx_rl, ↓gIx_ref, ↓gIx_str, ↓atK_0, ↓atK_1, ↓atK_2, ↓atK_3, ↓atK_4, ↓atK_5, ↓atK_6, ↓atK_7, ↓atK_last, ↓setK_0, ↓setK_1, ↓setK_2, ↓setK_3, ↓gLen_str, ↓gLen_tup, ↓gLen_rl, ↓gLen_ref, ↓gTupleOf_tup, ↓gTupleOf_rl, ↓gTupleOf_ref, ↓seqK_tup, ↓seqK_rl, ↓seqK_ref, ↓nListOf_, ↓isLst_ref, ↓gAppend_, ↓gInsert_, ↓isStr_str, ↓strK_str, ↓gStrCount_, ↓dJoinN_, ↓gPopAt_, ↓nRange1_, ↓gPop_, ↓refK_ref, ↓dExtN_, ↓gExt_, ↓gSetIx_, ↓itK_some, ↓iRow_, ↓rowIt_tup, ↓rowIt_rl, ↓rowIt_str, ↓iRng1_, ↓iRng2_, ↓iZip_, ↓iEnum_, ↓gNil_, ↓gCons_, ↓gTup_, ↓gTup_ref, ↓gAbs_, ↓gMax2_, ↓gMin2_, ↓gInt_int, ↓gInt_bl, ↓gLe_int, ↓gIsN_non, ↓gIsN_tup, ↓gIsN_int, ↓gIsN_str, ↓gIsN_ref, ↓gIsN_bl, ↓isi_bool_bool, ↓isi_bool_int, ↓isi_int_int, ↓isi_int_bool, ↓isi_tuple_tup, ↓isi_int_tup, ↓isi_bool_tup, ↓isi_str_str, ↓isi_tuple_int, ↓isi_tuple_non, ↓gEq_int, ↓gNe_int, ↓gEq_bl, ↓gNe_bl, ↓gEq_str, ↓gNe_str, ↓gEq_int_non, ↓oNone_, ↓oSome_, ↓gCut_str, ↓gCut_tup, ↓gCut_ref, ↓gCut_rl, ↓rowK_rl, ↓rowK_ref, ↓nCut_, ↓nSorted_, ↓gSorted1_, ↓nRev_, ↓nCatEN_, ↓nRep_, ↓tupK_tup, ↓keysD_two, ↓dtK_dT, ↓gGetT_, ↓gPutT_, ↓nKeysT_, ↓gIsB_, ↓nRepE_, ↓dIxN_, ↓gSumN_, ↓gAllN_, ↓gAnyN_, ↓gAnyI_, ↓gMaxN_, ↓gMax1_rl, ↓gMax1_ref, ↓gMinN_, ↓gMin1_rl, ↓gMin1_ref, ↓gSum_rl, ↓gSum_ref, ↓dChain_, ↓sAug_, ↓gIndex_, ↓dVar_0, ↓dVar_1, ↓dVar_2, ↓dVar_3, ↓dVar_4, ↓dVar_5, ↓dVar_6, ↓dVar_7, ↓dVar_8, ↓dVar_9, ↓dVar_10, ↓dVar_11, ↓dVar_12, ↓dVar_13, ↓dVar_14, ↓dVar_15, ↓dVar_16, ↓dVar_17, ↓dVar_18, ↓dVar_19, ↓dVar_20, ↓dVar_21, ↓dVar_22, ↓dVar_23, ↓dVar_24, ↓dVar_25, ↓sz_0, ↓sz_1, ↓sz_2, ↓sz_3, ↓sz_4, ↓sz_5, ↓sz_6, ↓sz_7, ↓sz_8, ↓sz_9, ↓sz_10, ↓sz_11, ↓sz_12, ↓sz_13, ↓u_dNewT, ↓u_sPutT, ↓u_sSeq, ↓u_sNext, ↓u_sSet, ↓u_sSetN, ↓u_sAsg, ↓u_sIf, ↓u_sRet, ↓u_sRetN, ↓u_sDrop, ↓u_sPar, ↓u_sFor, ↓u_sBreak, ↓u_sCont, ↓u_dC, ↓u_d2, ↓u_d1, ↓u_dTup, ↓u_dNew, ↓u_aNil, ↓u_aCons, ↓u_nLst, ↓u_tAnd', ↓u_tOr', ↓u_tNot', ↓u_dIf, ↓u_gName', ↓u_dCall, ↓u_dB, ↓u_dLenN, ↓u_dTupN, ↓u_dM, ↓u_iNew, ↓u_nLc, ↓u_dN1, ↓u_dCut, ↓u_nCutN, ↓u_nCatNN, ↓u_d2N, ↓u_dNN, ↓u_tYes', ↓u_dS, List.set_cons_zero, List.set_cons_succ, dwipe, ite_true, ite_false, Bool.false_eq_true, Bool.true_eq_false, Bool.not_true, Bool.not_false, beq_self_eq_true, decide_eq_true_eq, Bool.not_eq_true', decide_eq_false_iff_not, mput_same, mput_put, dends, List.length_cons, List.length_nil, true_and, and_true, Nat.reduceAdd, Nat.reduceEqDiff, Int.reduceToNat, ↓x_tabLen, ↓x_fr0, ↓x_fr1, ↓x_kn0, ↓x_kn1, ↓x_map, ↓x_at0, ↓x_at1, ↓x_len, ↓x_row, ↓x_cut, ↓x_tup2, ↓x_tupfr, ↓x_isiT, ↓x_isiK, ↓x_isiF, ↓x_notN, ↓x_getT, ↓x_putT, ↓x_notNM]
      refine ⟨⟨_, rfl⟩, ?_⟩
      simp only [List.length_cons] at h1 h2
      refine ⟨a, b, _, _, rfl, h7, by omega, by rw [List.length_map]; omega, by rw [List.length_map]; omega, fun v M4 v0 v1 hT4 hE => ?_⟩
      have hO4 : M4 od = some (.lst (os.map D.int)) := by rw [hE od oda odb]; exact h5
      have hW4 := h6.eq2 hE
      simp only [hO4, ↓bK_bl, ↓lstK_lst, ↓intK_int, ↓optK_some, ↓tBool_, ↓dAndV_, ↓dOrV_, ↓dNotV_, ↓gI_, ↓gI0_, ↓gAdd_int, ↓gAdd_str, ↓gAdd_tup, ↓gAdd_ref, ↓gNeg_, ↓gIx_tup, ↓gIx_rl, ↓gIx_ref, ↓gIx_str, ↓atK_0, ↓atK_1, ↓atK_2, ↓atK_3, ↓atK_4, ↓atK_5, ↓atK_6, ↓atK_7, ↓atK_last, ↓setK_0, ↓setK_1, ↓setK_2, ↓setK_3, ↓gLen_str, ↓gLen_tup, ↓gLen_rl, ↓gLen_ref, ↓gTupleOf_tup, ↓gTupleOf_rl, ↓gTupleOf_ref, ↓seqK_tup, ↓seqK_rl, ↓seqK_ref, ↓nListOf_, ↓isLst_ref, ↓gAppend_, ↓gInsert_, ↓isStr_str, ↓strK_str, ↓gStrCount_, ↓dJoinN_, ↓gPopAt_, ↓nRange1_, ↓gPop_, ↓refK_ref, ↓dExtN_, ↓gExt_, ↓gSetIx_, ↓itK_some, ↓iRow_, ↓rowIt_tup, ↓rowIt_rl, ↓rowIt_str, ↓iRng1_, ↓iRng2_, ↓iZip_, ↓iEnum_, ↓gNil_, ↓gCons_, ↓gTup_, ↓gTup_ref, ↓gAbs_, ↓gMax2_, ↓gMin2_, ↓gInt_int, ↓gInt_bl, ↓gLe_int, ↓gIsN_non, ↓gIsN_tup, ↓gIsN_int, ↓gIsN_str, ↓gIsN_ref, ↓gIsN_bl, ↓isi_bool_bool, ↓isi_bool_int, ↓isi_int_int, ↓isi_int_bool, ↓isi_tuple_tup, ↓isi_int_tup, ↓isi_bool_tup, ↓isi_str_str, ↓isi_tuple_int, ↓isi_tuple_non, ↓gEq_int, ↓gNe_int, ↓gEq_bl, ↓gNe_bl, ↓gEq_str, ↓gNe_str, ↓gEq_int_non, ↓oNone_, ↓oSome_, ↓gCut_str, ↓gCut_tup, ↓gCut_ref, ↓gCut_rl, ↓rowK_rl, ↓rowK_ref, ↓nCut_, ↓nSorted_, ↓gSorted1_, ↓nRev_, ↓nCatEN_, ↓nRep_, ↓tupK_tup, ↓keysD_two, ↓dtK_dT, ↓gGetT_, ↓gPutT_, ↓nKeysT_, ↓gIsB_, ↓nRepE_, ↓dIxN_, ↓gSumN_, ↓gAllN_, ↓gAnyN_, ↓gAnyI_, ↓gMaxN_, ↓gMax1_rl, ↓gMax1_ref, ↓gMinN_, ↓gMin1_rl, ↓gMin1_ref, ↓gSum_rl, ↓gSum_ref, ↓dChain_, ↓sAug_, ↓gIndex_, ↓dVar_0, ↓dVar_1, ↓dVar_2, ↓dVar_3, ↓dVar_4, ↓dVar_5, ↓dVar_6, ↓dVar_7, ↓dVar_8, ↓dVar_9, ↓dVar_10, ↓dVar_11, ↓dVar_12, ↓dVar_13, ↓dVar_14, ↓dVar_15, ↓dVar_16, ↓dVar_17, ↓dVar_18, ↓dVar_19, ↓dVar_20, ↓dVar_21, ↓dVar_22, ↓dVar_23, ↓dVar_24, ↓dVar_25, ↓sz_0, ↓sz_1, ↓sz_2, ↓sz_3, ↓sz_4, ↓sz_5, ↓sz_6, ↓sz_7, ↓sz_8, ↓sz_9, ↓sz_10, ↓sz_11, ↓sz_12, ↓sz_13, ↓u_dNewT, ↓u_sPutT, ↓u_sSeq, ↓u_sNext, ↓u_sSet, ↓u_sSetN, ↓u_sAsg, ↓u_sIf, ↓u_sRet, ↓u_sRetN, ↓u_sDrop, ↓u_sPar, ↓u_sFor, ↓u_sBreak, ↓u_sCont, ↓u_dC, ↓u_d2, ↓u_d1, ↓u_dTup, ↓u_dNew, ↓u_aNil, ↓u_aCons, ↓u_nLst, ↓u_tAnd', ↓u_tOr', ↓u_tNot', ↓u_dIf, ↓u_gName', ↓u_dCall, ↓u_dB, ↓u_dLenN, ↓u_dTupN, ↓u_dM, ↓u_iNew, ↓u_nLc, ↓u_dN1, ↓u_dCut, ↓u_nCutN, ↓u_nCatNN, ↓u_d2N, ↓u_dNN, ↓u_tYes', ↓u_dS, List.set_cons_zero, List.set_cons_succ, dwipe, ite_true, ite_false, Bool.false_eq_true, Bool.true_eq_false, Bool.not_true, Bool.not_false, beq_self_eq_true, decide_eq_true_eq, Bool.not_eq_true', decide_eq_false_iff_not, mput_same, mput_put, dends, List.length_cons, List.length_nil, true_and, and_true, Nat.reduceAdd, Nat.reduceEqDiff, Int.reduceToNat, ↓x_tabLen, ↓x_fr0, ↓x_fr1, ↓x_kn0, ↓x_kn1, ↓x_map, ↓x_at0, ↓x_at1, ↓x_len, ↓x_row, ↓x_cut, ↓x_tup2, ↓x_tupfr, ↓x_isiT, ↓x_isiK, ↓x_isiF, ↓x_notN, ↓x_getT, ↓x_putT, ↓x_notNM]
      rw [List.length_map] at v1 ⊢
      refine ⟨⟨v0, by omega⟩, v1, fun y hy => ?_⟩
      have hvl : v.toNat < os.length := by omega
      have ey : y = .int os[v.toNat] := by
        rw [List.getElem?_map, List.getElem?_eq_getElem hvl] at hy
        simpa using hy.symm
      subst ey
      refine ⟨by rw [List.length_map]; omega, hW2 _ _ ⟨os.eraseIdx v.toNat, zs ++ [os[v.toNat]], by simp, by simp; omega, ?_, fun z hz => h3 z (List.mem_of_mem_eraseIdx hz), ?_, ?_, ?_, ?_⟩⟩
      · rw [List.length_eraseIdx_of_lt hvl]
        omega
      · intro z hz
        rcases List.mem_append.mp hz with h | h
        · exact h4 z h
        · simp at h
          subst h
          exact h3 _ (List.getElem_mem hvl)
      · rw [mput_same, map_erase]
      · exact hW4.put odw.1 odw.2
      · have := hT4.put (x := od) (o := .lst ((os.map D.int).eraseIdx v.toNat)) oda odb
        exact this.mono (by simp; omega)
    · obtain ⟨os, o1, o2, o3⟩ := hO
      exact ⟨os, [], rfl, by simp, by simpa using o2, o3, by simp, o1, hW, hT.mono (by simp)⟩
  -- the loop over the rows
  have fromW : ∀ (rs : List (Addr × List Int)) (rw_ g : Addr) (q6 q9 q10 : Option D) (w : Int) (M : Mu), Rws a b rw_ n rs M → TDeck (N + 600) M a b → t_law_table_s4 (dends R) [some (.ref a), some (.int most), some (.int n), some (.ref g), some (.ref rw_), some (.int w), q6, none, none, q9, q10] M := by
    intro rs rw_ g q6 q9 q10 w M hW hT
    simp only [t_law_table_s4, ↓bK_bl, ↓lstK_lst, ↓intK_int, ↓optK_some, ↓tBool_, ↓dAndV_, ↓dOrV_, ↓dNotV_, ↓gI_, ↓gI0_, ↓gAdd_int, ↓gAdd_str, ↓gAdd_tup, ↓gAdd_ref, ↓gNeg_, ↓gIx_tup, ↓gIx_rl, ↓gIx_ref, ↓gIx_str, ↓atK_0, ↓atK_1, ↓atK_2, ↓atK_3, ↓atK_4, ↓atK_5, ↓atK_6, ↓atK_7, ↓atK_last, ↓setK_0, ↓setK_1, ↓setK_2, ↓setK_3, ↓gLen_str, ↓gLen_tup, ↓gLen_rl, ↓gLen_ref, ↓gTupleOf_tup, ↓gTupleOf_rl, ↓gTupleOf_ref, ↓seqK_tup, ↓seqK_rl, ↓seqK_ref, ↓nListOf_, ↓isLst_ref, ↓gAppend_, ↓gInsert_, ↓isStr_str, ↓strK_str, ↓gStrCount_, ↓dJoinN_, ↓gPopAt_, ↓nRange1_, ↓gPop_, ↓refK_ref, ↓dExtN_, ↓gExt_, ↓gSetIx_, ↓itK_some, ↓iRow_, ↓rowIt_tup, ↓rowIt_rl, ↓rowIt_str, ↓iRng1_, ↓iRng2_, ↓iZip_, ↓iEnum_, ↓gNil_, ↓gCons_, ↓gTup_, ↓gTup_ref, ↓gAbs_, ↓gMax2_, ↓gMin2_, ↓gInt_int, ↓gInt_bl, ↓gLe_int, ↓gIsN_non, ↓gIsN_tup, ↓gIsN_int, ↓gIsN_str, ↓gIsN_ref, ↓gIsN_bl, ↓isi_bool_bool, ↓isi_bool_int, ↓isi_int_int, ↓isi_int_bool, ↓isi_tuple_tup, ↓isi_int_tup, ↓isi_bool_tup, ↓isi_str_str, ↓isi_tuple_int, ↓isi_tuple_non, ↓gEq_int, ↓gNe_int, ↓gEq_bl, ↓gNe_bl, ↓gEq_str, ↓gNe_str, ↓gEq_int_non, ↓oNone_, ↓oSome_, ↓gCut_str, ↓gCut_tup, ↓gCut_ref, ↓gCut_rl, ↓rowK_rl, ↓rowK_ref, ↓nCut_, ↓nSorted_, ↓gSorted1_, ↓nRev_, ↓nCatEN_, ↓nRep_, ↓tupK_tup, ↓keysD_two, ↓dtK_dT, ↓gGetT_, ↓gPutT_, ↓nKeysT_, ↓gIsB_, ↓nRepE_, ↓dIxN_, ↓gSumN_, ↓gAllN_, ↓gAnyN_, ↓gAnyI_, ↓gMaxN_, ↓gMax1_rl, ↓gMax1_ref, ↓gMinN_, ↓gMin1_rl, ↓gMin1_ref, ↓gSum_rl, ↓gSum_ref, ↓dChain_, ↓sAug_, ↓gIndex_, ↓dVar_0, ↓dVar_1, ↓dVar_2, ↓dVar_3, ↓dVar_4, ↓dVar_5, ↓dVar_6, ↓dVar_7, ↓dVar_8, ↓dVar_9, ↓dVar_10, ↓dVar_11, ↓dVar_12, ↓dVar_13, ↓dVar_14, ↓dVar_15, ↓dVar_16, ↓dVar_17, ↓dVar_18, ↓dVar_19, ↓dVar_20, ↓dVar_21, ↓dVar_22, ↓dVar_23, ↓dVar_24, ↓dVar_25, ↓sz_0, ↓sz_1, ↓sz_2, ↓sz_3, ↓sz_4, ↓sz_5, ↓sz_6, ↓sz_7, ↓sz_8, ↓sz_9, ↓sz_10, ↓sz_11, ↓sz_12, ↓sz_13, ↓u_dNewT, ↓u_sPutT, ↓u_sSeq, ↓u_sNext, ↓u_sSet, ↓u_sSetN, ↓u_sAsg, ↓u_sIf, ↓u_sRet, ↓u_sRetN, ↓u_sDrop, ↓u_sPar, ↓u_sFor, ↓u_sBreak, ↓u_sCont, ↓u_dC, ↓u_d2, ↓u_d1, ↓u_dTup, ↓u_dNew, ↓u_aNil, ↓u_aCons, ↓u_nLst, ↓u_tAnd', ↓u_tOr', ↓u_tNot', ↓u_dIf, ↓u_gName', ↓u_dCall, ↓u_dB, ↓u_dLenN, ↓u_dTupN, ↓u_dM, ↓u_iNew, ↓u_nLc, ↓u_dN1, ↓u_dCut, ↓u_nCutN, ↓u_nCatNN, ↓u_d2N, ↓u_dNN, ↓u_tYes', ↓u_dS, List.set_cons_zero, List.set_cons_succ, dwipe, ite_true, ite_false, Bool.false_eq_true, Bool.true_eq_false, Bool.not_true, Bool.not_false, beq_self_eq_true, decide_eq_true_eq, Bool.not_eq_true', decide_eq_false_iff_not, mput_same, mput_put, dends, List.length_cons, List.length_nil, true_and, and_true, Nat.reduceAdd, Nat.reduceEqDiff, Int.reduceToNat, ↓x_tabLen, ↓x_fr0, ↓x_fr1, ↓x_kn0, ↓x_kn1, ↓x_map, ↓x_at0, ↓x_at1, ↓x_len, ↓x_row, ↓x_cut, ↓x_tup2, ↓x_tupfr, ↓x_isiT, ↓x_isiK, ↓x_isiF, ↓x_notN, ↓x_getT, ↓x_putT, ↓x_notNM]
    refine ⟨by omega, ?_⟩
    rw [show ((n : Nat) : Int).toNat = n by omega]
    refine for_rng 0 n (fun j r M => ∃ (rs : List (Addr × List Int)) (q6 q10 : Option D), r = [some (.ref a), some (.int most), some (.int n), some (.ref g), some (.ref rw_), some (.int w), q6, none, none, q9, q10] ∧ Rws a b rw_ n rs M ∧ TDeck (N + 600) M a b) ?_ ?_ _ _ ⟨rs, _, _, rfl, hW, hT⟩
    · rintro r M ⟨rs, q6, q10, rfl, hW, hT⟩
      exact ⟨trivial, fromO rs rw_ g _ _ _ _ M hW hT⟩
    · rintro k hk nx hnx r M ⟨rs, q6, q10, rfl, hW, hT⟩
      refine ⟨trivial, ?_⟩
      have kl : k < rs.length := by rw [hW.len]; exact hk
      have at_ : ∀ (rs : List (Addr × List Int)) (kl : k < rs.length) (K : D → Prop), K (.ref (rs[k]).1) → atK (rs.map fun p => D.ref p.1) (0 + (k : Int)) K := fun rs kl K hK => atK_of (n := k) (x := .ref (rs[k]).1) (by omega) (by simp [kl]) hK
      have set_ : ∀ (rs : List (Addr × List Int)) (kl : k < rs.length) (c : Addr) (r : List Int) (K : List D → Prop), K ((rs.set k (c, r)).map fun p => D.ref p.1) → setK (rs.map fun p => D.ref p.1) (0 + (k : Int)) (.ref c) K := fun rs kl c r K hK => setK_of (n := k) (by omega) (by simpa using kl) (by
        rw [List.map_set] at hK
        exact hK)
      -- the third way
      have way3 : ∀ (rs : List (Addr × List Int)) (q10 : Option D) (M : Mu), Rws a b rw_ n rs M → TDeck (N + 600) M a b → t_law_table_s7 { nx := nx, rt := fin R, bk := t_law_table_s9 (dends R), ct := nx } [some (.ref a), some (.int most), some (.int n), some (.ref g), some (.ref rw_), some (.int w), some (.int (0 + k)), none, none, q9, q10] M := by
        intro rs q10 M hW hT
        have kl : k < rs.length := by rw [hW.len]; exact hk
        simp only [t_law_table_s7, ↓bK_bl, ↓lstK_lst, ↓intK_int, ↓optK_some, ↓tBool_, ↓dAndV_, ↓dOrV_, ↓dNotV_, ↓gI_, ↓gI0_, ↓gAdd_int, ↓gAdd_str, ↓gAdd_tup, ↓gAdd_ref, ↓gNeg_, ↓gIx_tup, ↓gIx_rl, ↓gIx_ref, ↓gIx_str, ↓atK_0, ↓atK_1, ↓atK_2, ↓atK_3, ↓atK_4, ↓atK_5, ↓atK_6, ↓atK_7, ↓atK_last, ↓setK_0, ↓setK_1, ↓setK_2, ↓setK_3, ↓gLen_str, ↓gLen_tup, ↓gLen_rl, ↓gLen_ref, ↓gTupleOf_tup, ↓gTupleOf_rl, ↓gTupleOf_ref, ↓seqK_tup, ↓seqK_rl, ↓seqK_ref, ↓nListOf_, ↓isLst_ref, ↓gAppend_, ↓gInsert_, ↓isStr_str, ↓strK_str, ↓gStrCount_, ↓dJoinN_, ↓gPopAt_, ↓nRange1_, ↓gPop_, ↓refK_ref, ↓dExtN_, ↓gExt_, ↓gSetIx_, ↓itK_some, ↓iRow_, ↓rowIt_tup, ↓rowIt_rl, ↓rowIt_str, ↓iRng1_, ↓iRng2_, ↓iZip_, ↓iEnum_, ↓gNil_, ↓gCons_, ↓gTup_, ↓gTup_ref, ↓gAbs_, ↓gMax2_, ↓gMin2_, ↓gInt_int, ↓gInt_bl, ↓gLe_int, ↓gIsN_non, ↓gIsN_tup, ↓gIsN_int, ↓gIsN_str, ↓gIsN_ref, ↓gIsN_bl, ↓isi_bool_bool, ↓isi_bool_int, ↓isi_int_int, ↓isi_int_bool, ↓isi_tuple_tup, ↓isi_int_tup, ↓isi_bool_tup, ↓isi_str_str, ↓isi_tuple_int, ↓isi_tuple_non, ↓gEq_int, ↓gNe_int, ↓gEq_bl, ↓gNe_bl, ↓gEq_str, ↓gNe_str, ↓gEq_int_non, ↓oNone_, ↓oSome_, ↓gCut_str, ↓gCut_tup, ↓gCut_ref, ↓gCut_rl, ↓rowK_rl, ↓rowK_ref, ↓nCut_, ↓nSorted_, ↓gSorted1_, ↓nRev_, ↓nCatEN_, ↓nRep_, ↓tupK_tup, ↓keysD_two, ↓dtK_dT, ↓gGetT_, ↓gPutT_, ↓nKeysT_, ↓gIsB_, ↓nRepE_, ↓dIxN_, ↓gSumN_, ↓gAllN_, ↓gAnyN_, ↓gAnyI_, ↓gMaxN_, ↓gMax1_rl, ↓gMax1_ref, ↓gMinN_, ↓gMin1_rl, ↓gMin1_ref, ↓gSum_rl, ↓gSum_ref, ↓dChain_, ↓sAug_, ↓gIndex_, ↓dVar_0, ↓dVar_1, ↓dVar_2, ↓dVar_3, ↓dVar_4, ↓dVar_5, ↓dVar_6, ↓dVar_7, ↓dVar_8, ↓dVar_9, ↓dVar_10, ↓dVar_11, ↓dVar_12, ↓dVar_13, ↓dVar_14, ↓dVar_15, ↓dVar_16, ↓dVar_17, ↓dVar_18, ↓dVar_19, ↓dVar_20, ↓dVar_21, ↓dVar_22, ↓dVar_23, ↓dVar_24, ↓dVar_25, ↓sz_0, ↓sz_1, ↓sz_2, ↓sz_3, ↓sz_4, ↓sz_5, ↓sz_6, ↓sz_7, ↓sz_8, ↓sz_9, ↓sz_10, ↓sz_11, ↓sz_12, ↓sz_13, ↓u_dNewT, ↓u_sPutT, ↓u_sSeq, ↓u_sNext, ↓u_sSet, ↓u_sSetN, ↓u_sAsg, ↓u_sIf, ↓u_sRet, ↓u_sRetN, ↓u_sDrop, ↓u_sPar, ↓u_sFor, ↓u_sBreak, ↓u_sCont, ↓u_dC, ↓u_d2, ↓u_d1, ↓u_dTup, ↓u_dNew, ↓u_aNil, ↓u_aCons, ↓u_nLst, ↓u_tAnd', ↓u_tOr', ↓u_tNot', ↓u_dIf, ↓u_gName', ↓u_dCall, ↓u_dB, ↓u_dLenN, ↓u_dTupN, ↓u_dM, ↓u_iNew, ↓u_nLc, ↓u_dN1, ↓u_dCut, ↓u_nCutN, ↓u_nCatNN, ↓u_d2N, ↓u_dNN, ↓u_tYes', ↓u_dS, List.set_cons_zero, List.set_cons_succ, dwipe, ite_true, ite_false, Bool.false_eq_true, Bool.true_eq_false, Bool.not_true, Bool.not_false, beq_self_eq_true, decide_eq_true_eq, Bool.not_eq_true', decide_eq_false_iff_not, mput_same, mput_put, dends, List.length_cons, List.length_nil, true_and, and_true, Nat.reduceAdd, Nat.reduceEqDiff, Int.reduceToNat, ↓x_tabLen, ↓x_fr0, ↓x_fr1, ↓x_kn0, ↓x_kn1, ↓x_map, ↓x_at0, ↓x_at1, ↓x_len, ↓x_row, ↓x_cut, ↓x_tup2, ↓x_tupfr, ↓x_isiT, ↓x_isiK, ↓x_isiF, ↓x_notN, ↓x_getT, ↓x_putT, ↓x_notNM]
        split
        · refine ⟨by omega, ?_⟩
          rw [show ((n : Nat) : Int).toNat = n by omega, rng_map]
          have hr := hW.row _ (List.getElem_mem kl)
          refine lc_ind _ (fun xs acc M2 => M = M2 ∧ (∀ x ∈ xs, x < n) ∧ ∃ us : List Int, acc = us.map D.int ∧ us.length + xs.length = n ∧ ∀ z ∈ us, 0 ≤ z ∧ z ≤ 9) ?_ ?_ _ _ _ ⟨rfl, fun x hx => List.mem_range.mp hx, [], rfl, by simp, by simp⟩
          · rintro acc _ ⟨rfl, _, us, rfl, hu, hz⟩
            refine ⟨trivial, fun c hc => ?_⟩
            simp only [List.length_nil, Nat.add_zero] at hu
            have cf := hW.fresh hc
            have ca := hT.na hc
            have cb := hT.nb hc
            have hW2 := hW.new (o := .lst (us.map D.int)) hc
            have hT2 := hT.new (o := .lst (us.map D.int)) hc
            have hC : mput M c (.lst (us.map D.int)) c = some (.lst (us.map D.int)) := mput_same
            generalize mput M c (.lst (us.map D.int)) = M3 at hW2 hT2 hC ⊢
            simp only [hW2.rwL, ↓bK_bl, ↓lstK_lst, ↓intK_int, ↓optK_some, ↓tBool_, ↓dAndV_, ↓dOrV_, ↓dNotV_, ↓gI_, ↓gI0_, ↓gAdd_int, ↓gAdd_str, ↓gAdd_tup, ↓gAdd_ref, ↓gNeg_, ↓gIx_tup, ↓gIx_rl, ↓gIx_ref, ↓gIx_str, ↓atK_0, ↓atK_1, ↓atK_2, ↓atK_3, ↓atK_4, ↓atK_5, ↓atK_6, ↓atK_7, ↓atK_last, ↓setK_0, ↓setK_1, ↓setK_2, ↓setK_3, ↓gLen_str, ↓gLen_tup, ↓gLen_rl, ↓gLen_ref, ↓gTupleOf_tup, ↓gTupleOf_rl, ↓gTupleOf_ref, ↓seqK_tup, ↓seqK_rl, ↓seqK_ref, ↓nListOf_, ↓isLst_ref, ↓gAppend_, ↓gInsert_, ↓isStr_str, ↓strK_str, ↓gStrCount_, ↓dJoinN_, ↓gPopAt_, ↓nRange1_, ↓gPop_, ↓refK_ref, ↓dExtN_, ↓gExt_, ↓gSetIx_, ↓itK_some, ↓iRow_, ↓rowIt_tup, ↓rowIt_rl, ↓rowIt_str, ↓iRng1_, ↓iRng2_, ↓iZip_, ↓iEnum_, ↓gNil_, ↓gCons_, ↓gTup_, ↓gTup_ref, ↓gAbs_, ↓gMax2_, ↓gMin2_, ↓gInt_int, ↓gInt_bl, ↓gLe_int, ↓gIsN_non, ↓gIsN_tup, ↓gIsN_int, ↓gIsN_str, ↓gIsN_ref, ↓gIsN_bl, ↓isi_bool_bool, ↓isi_bool_int, ↓isi_int_int, ↓isi_int_bool, ↓isi_tuple_tup, ↓isi_int_tup, ↓isi_bool_tup, ↓isi_str_str, ↓isi_tuple_int, ↓isi_tuple_non, ↓gEq_int, ↓gNe_int, ↓gEq_bl, ↓gNe_bl, ↓gEq_str, ↓gNe_str, ↓gEq_int_non, ↓oNone_, ↓oSome_, ↓gCut_str, ↓gCut_tup, ↓gCut_ref, ↓gCut_rl, ↓rowK_rl, ↓rowK_ref, ↓nCut_, ↓nSorted_, ↓gSorted1_, ↓nRev_, ↓nCatEN_, ↓nRep_, ↓tupK_tup, ↓keysD_two, ↓dtK_dT, ↓gGetT_, ↓gPutT_, ↓nKeysT_, ↓gIsB_, ↓nRepE_, ↓dIxN_, ↓gSumN_, ↓gAllN_, ↓gAnyN_, ↓gAnyI_, ↓gMaxN_, ↓gMax1_rl, ↓gMax1_ref, ↓gMinN_, ↓gMin1_rl, ↓gMin1_ref, ↓gSum_rl, ↓gSum_ref, ↓dChain_, ↓sAug_, ↓gIndex_, ↓dVar_0, ↓dVar_1, ↓dVar_2, ↓dVar_3, ↓dVar_4, ↓dVar_5, ↓dVar_6, ↓dVar_7, ↓dVar_8, ↓dVar_9, ↓dVar_10, ↓dVar_11, ↓dVar_12, ↓dVar_13, ↓dVar_14, ↓dVar_15, ↓dVar_16, ↓dVar_17, ↓dVar_18, ↓dVar_19, ↓dVar_20, ↓dVar_21, ↓dVar_22, ↓dVar_23, ↓dVar_24, ↓dVar_25, ↓sz_0, ↓sz_1, ↓sz_2, ↓sz_3, ↓sz_4, ↓sz_5, ↓sz_6, ↓sz_7, ↓sz_8, ↓sz_9, ↓sz_10, ↓sz_11, ↓sz_12, ↓sz_13, ↓u_dNewT, ↓u_sPutT, ↓u_sSeq, ↓u_sNext, ↓u_sSet, ↓u_sSetN, ↓u_sAsg, ↓u_sIf, ↓u_sRet, ↓u_sRetN, ↓u_sDrop, ↓u_sPar, ↓u_sFor, ↓u_sBreak, ↓u_sCont, ↓u_dC, ↓u_d2, ↓u_d1, ↓u_dTup, ↓u_dNew, ↓u_aNil, ↓u_aCons, ↓u_nLst, ↓u_tAnd', ↓u_tOr', ↓u_tNot', ↓u_dIf, ↓u_gName', ↓u_dCall, ↓u_dB, ↓u_dLenN, ↓u_dTupN, ↓u_dM, ↓u_iNew, ↓u_nLc, ↓u_dN1, ↓u_dCut, ↓u_nCutN, ↓u_nCatNN, ↓u_d2N, ↓u_dNN, ↓u_tYes', ↓u_dS, List.set_cons_zero, List.set_cons_succ, dwipe, ite_true, ite_false, Bool.false_eq_true, Bool.true_eq_false, Bool.not_true, Bool.not_false, beq_self_eq_true, decide_eq_true_eq, Bool.not_eq_true', decide_eq_false_iff_not, mput_same, mput_put, dends, List.length_cons, List.length_nil, true_and, and_true, Nat.reduceAdd, Nat.reduceEqDiff, Int.reduceToNat, ↓x_tabLen, ↓x_fr0, ↓x_fr1, ↓x_kn0, ↓x_kn1, ↓x_map, ↓x_at0, ↓x_at1, ↓x_len, ↓x_row, ↓x_cut, ↓x_tup2, ↓x_tupfr, ↓x_isiT, ↓x_isiK, ↓x_isiF, ↓x_notN, ↓x_getT, ↓x_putT, ↓x_notNM]
            refine set_ rs kl c us _ ?_
            have hW3 := hW2.set k hC ca cb cf.1 cf.2 ⟨hu, hz⟩
            have hT3 := hT2.put (x := rw_) (o := .lst ((rs.set k (c, us)).map fun p => D.ref p.1)) hW.rwa.1 hW.rwa.2
            generalize mput M3 rw_ (.lst ((rs.set k (c, us)).map fun p => D.ref p.1)) = M4 at hW3 hT3 ⊢
            have kl2 : k < (rs.set k (c, us)).length := by rw [List.length_set]; exact kl
            generalize rs.set k (c, us) = rs2 at hW3 kl2 ⊢
            have hr2 := hW3.row _ (List.getElem_mem kl2)
            simp only [t_law_table_s8, hW3.rwL, ↓bK_bl, ↓lstK_lst, ↓intK_int, ↓optK_some, ↓tBool_, ↓dAndV_, ↓dOrV_, ↓dNotV_, ↓gI_, ↓gI0_, ↓gAdd_int, ↓gAdd_str, ↓gAdd_tup, ↓gAdd_ref, ↓gNeg_, ↓gIx_tup, ↓gIx_rl, ↓gIx_ref, ↓gIx_str, ↓atK_0, ↓atK_1, ↓atK_2, ↓atK_3, ↓atK_4, ↓atK_5, ↓atK_6, ↓atK_7, ↓atK_last, ↓setK_0, ↓setK_1, ↓setK_2, ↓setK_3, ↓gLen_str, ↓gLen_tup, ↓gLen_rl, ↓gLen_ref, ↓gTupleOf_tup, ↓gTupleOf_rl, ↓gTupleOf_ref, ↓seqK_tup, ↓seqK_rl, ↓seqK_ref, ↓nListOf_, ↓isLst_ref, ↓gAppend_, ↓gInsert_, ↓isStr_str, ↓strK_str, ↓gStrCount_, ↓dJoinN_, ↓gPopAt_, ↓nRange1_, ↓gPop_, ↓refK_ref, ↓dExtN_, ↓gExt_, ↓gSetIx_, ↓itK_some, ↓iRow_, ↓rowIt_tup, ↓rowIt_rl, ↓rowIt_str, ↓iRng1_, ↓iRng2_, ↓iZip_, ↓iEnum_, ↓gNil_, ↓gCons_, ↓gTup_, ↓gTup_ref, ↓gAbs_, ↓gMax2_, ↓gMin2_, ↓gInt_int, ↓gInt_bl, ↓gLe_int, ↓gIsN_non, ↓gIsN_tup, ↓gIsN_int, ↓gIsN_str, ↓gIsN_ref, ↓gIsN_bl, ↓isi_bool_bool, ↓isi_bool_int, ↓isi_int_int, ↓isi_int_bool, ↓isi_tuple_tup, ↓isi_int_tup, ↓isi_bool_tup, ↓isi_str_str, ↓isi_tuple_int, ↓isi_tuple_non, ↓gEq_int, ↓gNe_int, ↓gEq_bl, ↓gNe_bl, ↓gEq_str, ↓gNe_str, ↓gEq_int_non, ↓oNone_, ↓oSome_, ↓gCut_str, ↓gCut_tup, ↓gCut_ref, ↓gCut_rl, ↓rowK_rl, ↓rowK_ref, ↓nCut_, ↓nSorted_, ↓gSorted1_, ↓nRev_, ↓nCatEN_, ↓nRep_, ↓tupK_tup, ↓keysD_two, ↓dtK_dT, ↓gGetT_, ↓gPutT_, ↓nKeysT_, ↓gIsB_, ↓nRepE_, ↓dIxN_, ↓gSumN_, ↓gAllN_, ↓gAnyN_, ↓gAnyI_, ↓gMaxN_, ↓gMax1_rl, ↓gMax1_ref, ↓gMinN_, ↓gMin1_rl, ↓gMin1_ref, ↓gSum_rl, ↓gSum_ref, ↓dChain_, ↓sAug_, ↓gIndex_, ↓dVar_0, ↓dVar_1, ↓dVar_2, ↓dVar_3, ↓dVar_4, ↓dVar_5, ↓dVar_6, ↓dVar_7, ↓dVar_8, ↓dVar_9, ↓dVar_10, ↓dVar_11, ↓dVar_12, ↓dVar_13, ↓dVar_14, ↓dVar_15, ↓dVar_16, ↓dVar_17, ↓dVar_18, ↓dVar_19, ↓dVar_20, ↓dVar_21, ↓dVar_22, ↓dVar_23, ↓dVar_24, ↓dVar_25, ↓sz_0, ↓sz_1, ↓sz_2, ↓sz_3, ↓sz_4, ↓sz_5, ↓sz_6, ↓sz_7, ↓sz_8, ↓sz_9, ↓sz_10, ↓sz_11, ↓sz_12, ↓sz_13, ↓u_dNewT, ↓u_sPutT, ↓u_sSeq, ↓u_sNext, ↓u_sSet, ↓u_sSetN, ↓u_sAsg, ↓u_sIf, ↓u_sRet, ↓u_sRetN, ↓u_sDrop, ↓u_sPar, ↓u_sFor, ↓u_sBreak, ↓u_sCont, ↓u_dC, ↓u_d2, ↓u_d1, ↓u_dTup, ↓u_dNew, ↓u_aNil, ↓u_aCons, ↓u_nLst, ↓u_tAnd', ↓u_tOr', ↓u_tNot', ↓u_dIf, ↓u_gName', ↓u_dCall, ↓u_dB, ↓u_dLenN, ↓u_dTupN, ↓u_dM, ↓u_iNew, ↓u_nLc, ↓u_dN1, ↓u_dCut, ↓u_nCutN, ↓u_nCatNN, ↓u_d2N, ↓u_dNN, ↓u_tYes', ↓u_dS, List.set_cons_zero, List.set_cons_succ, dwipe, ite_true, ite_false, Bool.false_eq_true, Bool.true_eq_false, Bool.not_true, Bool.not_false, beq_self_eq_true, decide_eq_true_eq, Bool.not_eq_true', decide_eq_false_iff_not, mput_same, mput_put, dends, List.length_cons, List.length_nil, true_and, and_true, Nat.reduceAdd, Nat.reduceEqDiff, Int.reduceToNat, ↓x_tabLen, ↓x_fr0, ↓x_fr1, ↓x_kn0, ↓x_kn1, ↓x_map, ↓x_at0, ↓x_at1, ↓x_len, ↓x_row, ↓x_cut, ↓x_tup2, ↓x_tupfr, ↓x_isiT, ↓x_isiK, ↓x_isiF, ↓x_notN, ↓x_getT, ↓x_putT, ↓x_notNM]
            have fin8 : ∀ i : Nat, i < n → setK ((rs2[k]).2.map D.int) (i : Int) (.int 1) fun ys => nx [some (.ref a), some (.int most), some (.int n), some (.ref g), some (.ref rw_), some (.int w), some (.int (0 + k)), none, none, q9, q10] (mput M4 (rs2[k]).1 (.lst ys)) := by
              intro i hi
              refine setK_of (n := i) rfl (by rw [List.length_map, hr2.2.2.2.2.1]; exact hi) ?_
              rw [← List.map_set]
              refine hnx _ _ ⟨rs2.set k ((rs2[k]).1, (rs2[k]).2.set i 1), _, _, rfl, hW3.inp kl2 ⟨by rw [List.length_set]; exact hr2.2.2.2.2.1, fun z hz' => ?_⟩, hT3.put hr2.2.1 hr2.2.2.1⟩
              rcases mem_set_cases hz' with rfl | h
              · omega
              · exact hr2.2.2.2.2.2 z h
            refine at_ rs2 kl2 _ ?_
            refine ⟨small_div (by decide) (by decide), mul_r (by decide) (by decide), by decide, small_div (by decide) (by decide), mul_r (by decide) (by decide), by decide, ?_⟩
            have pick : ∀ z : Int, 0 ≤ z → z < n → setK ((rs2[k]).2.map D.int) z (.int 1) fun ys => nx [some (.ref a), some (.int most), some (.int n), some (.ref g), some (.ref rw_), some (.int w), some (.int (0 + k)), none, none, q9, q10] (mput M4 (rs2[k]).1 (.lst ys)) := by
              intro z z0 z1
              have := fin8 z.toNat (by omega)
              rw [show ((z.toNat : Nat) : Int) = z by omega] at this
              exact this
            split
            · simp only [hr2.1, ↓bK_bl, ↓lstK_lst, ↓intK_int, ↓optK_some, ↓tBool_, ↓dAndV_, ↓dOrV_, ↓dNotV_, ↓gI_, ↓gI0_, ↓gAdd_int, ↓gAdd_str, ↓gAdd_tup, ↓gAdd_ref, ↓gNeg_, ↓gIx_tup, ↓gIx_rl, ↓gIx_ref, ↓gIx_str, ↓atK_0, ↓atK_1, ↓atK_2, ↓atK_3, ↓atK_4, ↓atK_5, ↓atK_6, ↓atK_7, ↓atK_last, ↓setK_0, ↓setK_1, ↓setK_2, ↓setK_3, ↓gLen_str, ↓gLen_tup, ↓gLen_rl, ↓gLen_ref, ↓gTupleOf_tup, ↓gTupleOf_rl, ↓gTupleOf_ref, ↓seqK_tup, ↓seqK_rl, ↓seqK_ref, ↓nListOf_, ↓isLst_ref, ↓gAppend_, ↓gInsert_, ↓isStr_str, ↓strK_str, ↓gStrCount_, ↓dJoinN_, ↓gPopAt_, ↓nRange1_, ↓gPop_, ↓refK_ref, ↓dExtN_, ↓gExt_, ↓gSetIx_, ↓itK_some, ↓iRow_, ↓rowIt_tup, ↓rowIt_rl, ↓rowIt_str, ↓iRng1_, ↓iRng2_, ↓iZip_, ↓iEnum_, ↓gNil_, ↓gCons_, ↓gTup_, ↓gTup_ref, ↓gAbs_, ↓gMax2_, ↓gMin2_, ↓gInt_int, ↓gInt_bl, ↓gLe_int, ↓gIsN_non, ↓gIsN_tup, ↓gIsN_int, ↓gIsN_str, ↓gIsN_ref, ↓gIsN_bl, ↓isi_bool_bool, ↓isi_bool_int, ↓isi_int_int, ↓isi_int_bool, ↓isi_tuple_tup, ↓isi_int_tup, ↓isi_bool_tup, ↓isi_str_str, ↓isi_tuple_int, ↓isi_tuple_non, ↓gEq_int, ↓gNe_int, ↓gEq_bl, ↓gNe_bl, ↓gEq_str, ↓gNe_str, ↓gEq_int_non, ↓oNone_, ↓oSome_, ↓gCut_str, ↓gCut_tup, ↓gCut_ref, ↓gCut_rl, ↓rowK_rl, ↓rowK_ref, ↓nCut_, ↓nSorted_, ↓gSorted1_, ↓nRev_, ↓nCatEN_, ↓nRep_, ↓tupK_tup, ↓keysD_two, ↓dtK_dT, ↓gGetT_, ↓gPutT_, ↓nKeysT_, ↓gIsB_, ↓nRepE_, ↓dIxN_, ↓gSumN_, ↓gAllN_, ↓gAnyN_, ↓gAnyI_, ↓gMaxN_, ↓gMax1_rl, ↓gMax1_ref, ↓gMinN_, ↓gMin1_rl, ↓gMin1_ref, ↓gSum_rl, ↓gSum_ref, ↓dChain_, ↓sAug_, ↓gIndex_, ↓dVar_0, ↓dVar_1, ↓dVar_2, ↓dVar_3, ↓dVar_4, ↓dVar_5, ↓dVar_6, ↓dVar_7, ↓dVar_8, ↓dVar_9, ↓dVar_10, ↓dVar_11, ↓dVar_12, ↓dVar_13, ↓dVar_14, ↓dVar_15, ↓dVar_16, ↓dVar_17, ↓dVar_18, ↓dVar_19, ↓dVar_20, ↓dVar_21, ↓dVar_22, ↓dVar_23, ↓dVar_24, ↓dVar_25, ↓sz_0, ↓sz_1, ↓sz_2, ↓sz_3, ↓sz_4, ↓sz_5, ↓sz_6, ↓sz_7, ↓sz_8, ↓sz_9, ↓sz_10, ↓sz_11, ↓sz_12, ↓sz_13, ↓u_dNewT, ↓u_sPutT, ↓u_sSeq, ↓u_sNext, ↓u_sSet, ↓u_sSetN, ↓u_sAsg, ↓u_sIf, ↓u_sRet, ↓u_sRetN, ↓u_sDrop, ↓u_sPar, ↓u_sFor, ↓u_sBreak, ↓u_sCont, ↓u_dC, ↓u_d2, ↓u_d1, ↓u_dTup, ↓u_dNew, ↓u_aNil, ↓u_aCons, ↓u_nLst, ↓u_tAnd', ↓u_tOr', ↓u_tNot', ↓u_dIf, ↓u_gName', ↓u_dCall, ↓u_dB, ↓u_dLenN, ↓u_dTupN, ↓u_dM, ↓u_iNew, ↓u_nLc, ↓u_dN1, ↓u_dCut, ↓u_nCutN, ↓u_nCatNN, ↓u_d2N, ↓u_dNN, ↓u_tYes', ↓u_dS, List.set_cons_zero, List.set_cons_succ, dwipe, ite_true, ite_false, Bool.false_eq_true, Bool.true_eq_false, Bool.not_true, Bool.not_false, beq_self_eq_true, decide_eq_true_eq, Bool.not_eq_true', decide_eq_false_iff_not, mput_same, mput_put, dends, List.length_cons, List.length_nil, true_and, and_true, Nat.reduceAdd, Nat.reduceEqDiff, Int.reduceToNat, ↓x_tabLen, ↓x_fr0, ↓x_fr1, ↓x_kn0, ↓x_kn1, ↓x_map, ↓x_at0, ↓x_at1, ↓x_len, ↓x_row, ↓x_cut, ↓x_tup2, ↓x_tupfr, ↓x_isiT, ↓x_isiK, ↓x_isiF, ↓x_notN, ↓x_getT, ↓x_putT, ↓x_notNM]
              exact pick _ (by omega) (by omega)
            · split
              · rw [atK_1]
                simp only [hr2.1, ↓bK_bl, ↓lstK_lst, ↓intK_int, ↓optK_some, ↓tBool_, ↓dAndV_, ↓dOrV_, ↓dNotV_, ↓gI_, ↓gI0_, ↓gAdd_int, ↓gAdd_str, ↓gAdd_tup, ↓gAdd_ref, ↓gNeg_, ↓gIx_tup, ↓gIx_rl, ↓gIx_ref, ↓gIx_str, ↓atK_0, ↓atK_1, ↓atK_2, ↓atK_3, ↓atK_4, ↓atK_5, ↓atK_6, ↓atK_7, ↓atK_last, ↓setK_0, ↓setK_1, ↓setK_2, ↓setK_3, ↓gLen_str, ↓gLen_tup, ↓gLen_rl, ↓gLen_ref, ↓gTupleOf_tup, ↓gTupleOf_rl, ↓gTupleOf_ref, ↓seqK_tup, ↓seqK_rl, ↓seqK_ref, ↓nListOf_, ↓isLst_ref, ↓gAppend_, ↓gInsert_, ↓isStr_str, ↓strK_str, ↓gStrCount_, ↓dJoinN_, ↓gPopAt_, ↓nRange1_, ↓gPop_, ↓refK_ref, ↓dExtN_, ↓gExt_, ↓gSetIx_, ↓itK_some, ↓iRow_, ↓rowIt_tup, ↓rowIt_rl, ↓rowIt_str, ↓iRng1_, ↓iRng2_, ↓iZip_, ↓iEnum_, ↓gNil_, ↓gCons_, ↓gTup_, ↓gTup_ref, ↓gAbs_, ↓gMax2_, ↓gMin2_, ↓gInt_int, ↓gInt_bl, ↓gLe_int, ↓gIsN_non, ↓gIsN_tup, ↓gIsN_int, ↓gIsN_str, ↓gIsN_ref, ↓gIsN_bl, ↓isi_bool_bool, ↓isi_bool_int, ↓isi_int_int, ↓isi_int_bool, ↓isi_tuple_tup, ↓isi_int_tup, ↓isi_bool_tup, ↓isi_str_str, ↓isi_tuple_int, ↓isi_tuple_non, ↓gEq_int, ↓gNe_int, ↓gEq_bl, ↓gNe_bl, ↓gEq_str, ↓gNe_str, ↓gEq_int_non, ↓oNone_, ↓oSome_, ↓gCut_str, ↓gCut_tup, ↓gCut_ref, ↓gCut_rl, ↓rowK_rl, ↓rowK_ref, ↓nCut_, ↓nSorted_, ↓gSorted1_, ↓nRev_, ↓nCatEN_, ↓nRep_, ↓tupK_tup, ↓keysD_two, ↓dtK_dT, ↓gGetT_, ↓gPutT_, ↓nKeysT_, ↓gIsB_, ↓nRepE_, ↓dIxN_, ↓gSumN_, ↓gAllN_, ↓gAnyN_, ↓gAnyI_, ↓gMaxN_, ↓gMax1_rl, ↓gMax1_ref, ↓gMinN_, ↓gMin1_rl, ↓gMin1_ref, ↓gSum_rl, ↓gSum_ref, ↓dChain_, ↓sAug_, ↓gIndex_, ↓dVar_0, ↓dVar_1, ↓dVar_2, ↓dVar_3, ↓dVar_4, ↓dVar_5, ↓dVar_6, ↓dVar_7, ↓dVar_8, ↓dVar_9, ↓dVar_10, ↓dVar_11, ↓dVar_12, ↓dVar_13, ↓dVar_14, ↓dVar_15, ↓dVar_16, ↓dVar_17, ↓dVar_18, ↓dVar_19, ↓dVar_20, ↓dVar_21, ↓dVar_22, ↓dVar_23, ↓dVar_24, ↓dVar_25, ↓sz_0, ↓sz_1, ↓sz_2, ↓sz_3, ↓sz_4, ↓sz_5, ↓sz_6, ↓sz_7, ↓sz_8, ↓sz_9, ↓sz_10, ↓sz_11, ↓sz_12, ↓sz_13, ↓u_dNewT, ↓u_sPutT, ↓u_sSeq, ↓u_sNext, ↓u_sSet, ↓u_sSetN, ↓u_sAsg, ↓u_sIf, ↓u_sRet, ↓u_sRetN, ↓u_sDrop, ↓u_sPar, ↓u_sFor, ↓u_sBreak, ↓u_sCont, ↓u_dC, ↓u_d2, ↓u_d1, ↓u_dTup, ↓u_dNew, ↓u_aNil, ↓u_aCons, ↓u_nLst, ↓u_tAnd', ↓u_tOr', ↓u_tNot', ↓u_dIf, ↓u_gName', ↓u_dCall, ↓u_dB, ↓u_dLenN, ↓u_dTupN, ↓u_dM, ↓u_iNew, ↓u_nLc, ↓u_dN1, ↓u_dCut, ↓u_nCutN, ↓u_nCatNN, ↓u_d2N, ↓u_dNN, ↓u_tYes', ↓u_dS, List.set_cons_zero, List.set_cons_succ, dwipe, ite_true, ite_false, Bool.false_eq_true, Bool.true_eq_false, Bool.not_true, Bool.not_false, beq_self_eq_true, decide_eq_true_eq, Bool.not_eq_true', decide_eq_false_iff_not, mput_same, mput_put, dends, List.length_cons, List.length_nil, true_and, and_true, Nat.reduceAdd, Nat.reduceEqDiff, Int.reduceToNat, ↓x_tabLen, ↓x_fr0, ↓x_fr1, ↓x_kn0, ↓x_kn1, ↓x_map, ↓x_at0, ↓x_at1, ↓x_len, ↓x_row, ↓x_cut, ↓x_tup2, ↓x_tupfr, ↓x_isiT, ↓x_isiK, ↓x_isiF, ↓x_notN, ↓x_getT, ↓x_putT, ↓x_notNM]
                exact pick _ (by omega) (by omega)
              · rw [atK_0]
                simp only [hr2.1, ↓bK_bl, ↓lstK_lst, ↓intK_int, ↓optK_some, ↓tBool_, ↓dAndV_, ↓dOrV_, ↓dNotV_, ↓gI_, ↓gI0_, ↓gAdd_int, ↓gAdd_str, ↓gAdd_tup, ↓gAdd_ref, ↓gNeg_, ↓gIx_tup, ↓gIx_rl, ↓gIx_ref, ↓gIx_str, ↓atK_0, ↓atK_1, ↓atK_2, ↓atK_3, ↓atK_4, ↓atK_5, ↓atK_6, ↓atK_7, ↓atK_last, ↓setK_0, ↓setK_1, ↓setK_2, ↓setK_3, ↓gLen_str, ↓gLen_tup, ↓gLen_rl, ↓gLen_ref, ↓gTupleOf_tup, ↓gTupleOf_rl, ↓gTupleOf_ref, ↓seqK_tup, ↓seqK_rl, ↓seqK_ref, ↓nListOf_, ↓isLst_ref, ↓gAppend_, ↓gInsert_, ↓isStr_str, ↓strK_str, ↓gStrCount_, ↓dJoinN_, ↓gPopAt_, ↓nRange1_, ↓gPop_, ↓refK_ref, ↓dExtN_, ↓gExt_, ↓gSetIx_, ↓itK_some, ↓iRow_, ↓rowIt_tup, ↓rowIt_rl, ↓rowIt_str, ↓iRng1_, ↓iRng2_, ↓iZip_, ↓iEnum_, ↓gNil_, ↓gCons_, ↓gTup_, ↓gTup_ref, ↓gAbs_, ↓gMax2_, ↓gMin2_, ↓gInt_int, ↓gInt_bl, ↓gLe_int, ↓gIsN_non, ↓gIsN_tup, ↓gIsN_int, ↓gIsN_str, ↓gIsN_ref, ↓gIsN_bl, ↓isi_bool_bool, ↓isi_bool_int, ↓isi_int_int, ↓isi_int_bool, ↓isi_tuple_tup, ↓isi_int_tup, ↓isi_bool_tup, ↓isi_str_str, ↓isi_tuple_int, ↓isi_tuple_non, ↓gEq_int, ↓gNe_int, ↓gEq_bl, ↓gNe_bl, ↓gEq_str, ↓gNe_str, ↓gEq_int_non, ↓oNone_, ↓oSome_, ↓gCut_str, ↓gCut_tup, ↓gCut_ref, ↓gCut_rl, ↓rowK_rl, ↓rowK_ref, ↓nCut_, ↓nSorted_, ↓gSorted1_, ↓nRev_, ↓nCatEN_, ↓nRep_, ↓tupK_tup, ↓keysD_two, ↓dtK_dT, ↓gGetT_, ↓gPutT_, ↓nKeysT_, ↓gIsB_, ↓nRepE_, ↓dIxN_, ↓gSumN_, ↓gAllN_, ↓gAnyN_, ↓gAnyI_, ↓gMaxN_, ↓gMax1_rl, ↓gMax1_ref, ↓gMinN_, ↓gMin1_rl, ↓gMin1_ref, ↓gSum_rl, ↓gSum_ref, ↓dChain_, ↓sAug_, ↓gIndex_, ↓dVar_0, ↓dVar_1, ↓dVar_2, ↓dVar_3, ↓dVar_4, ↓dVar_5, ↓dVar_6, ↓dVar_7, ↓dVar_8, ↓dVar_9, ↓dVar_10, ↓dVar_11, ↓dVar_12, ↓dVar_13, ↓dVar_14, ↓dVar_15, ↓dVar_16, ↓dVar_17, ↓dVar_18, ↓dVar_19, ↓dVar_20, ↓dVar_21, ↓dVar_22, ↓dVar_23, ↓dVar_24, ↓dVar_25, ↓sz_0, ↓sz_1, ↓sz_2, ↓sz_3, ↓sz_4, ↓sz_5, ↓sz_6, ↓sz_7, ↓sz_8, ↓sz_9, ↓sz_10, ↓sz_11, ↓sz_12, ↓sz_13, ↓u_dNewT, ↓u_sPutT, ↓u_sSeq, ↓u_sNext, ↓u_sSet, ↓u_sSetN, ↓u_sAsg, ↓u_sIf, ↓u_sRet, ↓u_sRetN, ↓u_sDrop, ↓u_sPar, ↓u_sFor, ↓u_sBreak, ↓u_sCont, ↓u_dC, ↓u_d2, ↓u_d1, ↓u_dTup, ↓u_dNew, ↓u_aNil, ↓u_aCons, ↓u_nLst, ↓u_tAnd', ↓u_tOr', ↓u_tNot', ↓u_dIf, ↓u_gName', ↓u_dCall, ↓u_dB, ↓u_dLenN, ↓u_dTupN, ↓u_dM, ↓u_iNew, ↓u_nLc, ↓u_dN1, ↓u_dCut, ↓u_nCutN, ↓u_nCatNN, ↓u_d2N, ↓u_dNN, ↓u_tYes', ↓u_dS, List.set_cons_zero, List.set_cons_succ, dwipe, ite_true, ite_false, Bool.false_eq_true, Bool.true_eq_false, Bool.not_true, Bool.not_false, beq_self_eq_true, decide_eq_true_eq, Bool.not_eq_true', decide_eq_false_iff_not, mput_same, mput_put, dends, List.length_cons, List.length_nil, true_and, and_true, Nat.reduceAdd, Nat.reduceEqDiff, Int.reduceToNat, ↓x_tabLen, ↓x_fr0, ↓x_fr1, ↓x_kn0, ↓x_kn1, ↓x_map, ↓x_at0, ↓x_at1, ↓x_len, ↓x_row, ↓x_cut, ↓x_tup2, ↓x_tupfr, ↓x_isiT, ↓x_isiK, ↓x_isiF, ↓x_notN, ↓x_getT, ↓x_putT, ↓x_notNM]
                exact pick _ (by omega) (by omega)
          · rintro x xs acc _ W hW3 ⟨rfl, hx, us, rfl, hu, hz⟩
            have hx0 := hx x List.mem_cons_self
            refine ⟨trivial, ?_⟩
            simp only [hW.rwL, ↓bK_bl, ↓lstK_lst, ↓intK_int, ↓optK_some, ↓tBool_, ↓dAndV_, ↓dOrV_, ↓dNotV_, ↓gI_, ↓gI0_, ↓gAdd_int, ↓gAdd_str, ↓gAdd_tup, ↓gAdd_ref, ↓gNeg_, ↓gIx_tup, ↓gIx_rl, ↓gIx_ref, ↓gIx_str, ↓atK_0, ↓atK_1, ↓atK_2, ↓atK_3, ↓atK_4, ↓atK_5, ↓atK_6, ↓atK_7, ↓atK_last, ↓setK_0, ↓setK_1, ↓setK_2, ↓setK_3, ↓gLen_str, ↓gLen_tup, ↓gLen_rl, ↓gLen_ref, ↓gTupleOf_tup, ↓gTupleOf_rl, ↓gTupleOf_ref, ↓seqK_tup, ↓seqK_rl, ↓seqK_ref, ↓nListOf_, ↓isLst_ref, ↓gAppend_, ↓gInsert_, ↓isStr_str, ↓strK_str, ↓gStrCount_, ↓dJoinN_, ↓gPopAt_, ↓nRange1_, ↓gPop_, ↓refK_ref, ↓dExtN_, ↓gExt_, ↓gSetIx_, ↓itK_some, ↓iRow_, ↓rowIt_tup, ↓rowIt_rl, ↓rowIt_str, ↓iRng1_, ↓iRng2_, ↓iZip_, ↓iEnum_, ↓gNil_, ↓gCons_, ↓gTup_, ↓gTup_ref, ↓gAbs_, ↓gMax2_, ↓gMin2_, ↓gInt_int, ↓gInt_bl, ↓gLe_int, ↓gIsN_non, ↓gIsN_tup, ↓gIsN_int, ↓gIsN_str, ↓gIsN_ref, ↓gIsN_bl, ↓isi_bool_bool, ↓isi_bool_int, ↓isi_int_int, ↓isi_int_bool, ↓isi_tuple_tup, ↓isi_int_tup, ↓isi_bool_tup, ↓isi_str_str, ↓isi_tuple_int, ↓isi_tuple_non, ↓gEq_int, ↓gNe_int, ↓gEq_bl, ↓gNe_bl, ↓gEq_str, ↓gNe_str, ↓gEq_int_non, ↓oNone_, ↓oSome_, ↓gCut_str, ↓gCut_tup, ↓gCut_ref, ↓gCut_rl, ↓rowK_rl, ↓rowK_ref, ↓nCut_, ↓nSorted_, ↓gSorted1_, ↓nRev_, ↓nCatEN_, ↓nRep_, ↓tupK_tup, ↓keysD_two, ↓dtK_dT, ↓gGetT_, ↓gPutT_, ↓nKeysT_, ↓gIsB_, ↓nRepE_, ↓dIxN_, ↓gSumN_, ↓gAllN_, ↓gAnyN_, ↓gAnyI_, ↓gMaxN_, ↓gMax1_rl, ↓gMax1_ref, ↓gMinN_, ↓gMin1_rl, ↓gMin1_ref, ↓gSum_rl, ↓gSum_ref, ↓dChain_, ↓sAug_, ↓gIndex_, ↓dVar_0, ↓dVar_1, ↓dVar_2, ↓dVar_3, ↓dVar_4, ↓dVar_5, ↓dVar_6, ↓dVar_7, ↓dVar_8, ↓dVar_9, ↓dVar_10, ↓dVar_11, ↓dVar_12, ↓dVar_13, ↓dVar_14, ↓dVar_15, ↓dVar_16, ↓dVar_17, ↓dVar_18, ↓dVar_19, ↓dVar_20, ↓dVar_21, ↓dVar_22, ↓dVar_23, ↓dVar_24, ↓dVar_25, ↓sz_0, ↓sz_1, ↓sz_2, ↓sz_3, ↓sz_4, ↓sz_5, ↓sz_6, ↓sz_7, ↓sz_8, ↓sz_9, ↓sz_10, ↓sz_11, ↓sz_12, ↓sz_13, ↓u_dNewT, ↓u_sPutT, ↓u_sSeq, ↓u_sNext, ↓u_sSet, ↓u_sSetN, ↓u_sAsg, ↓u_sIf, ↓u_sRet, ↓u_sRetN, ↓u_sDrop, ↓u_sPar, ↓u_sFor, ↓u_sBreak, ↓u_sCont, ↓u_dC, ↓u_d2, ↓u_d1, ↓u_dTup, ↓u_dNew, ↓u_aNil, ↓u_aCons, ↓u_nLst, ↓u_tAnd', ↓u_tOr', ↓u_tNot', ↓u_dIf, ↓u_gName', ↓u_dCall, ↓u_dB, ↓u_dLenN, ↓u_dTupN, ↓u_dM, ↓u_iNew, ↓u_nLc, ↓u_dN1, ↓u_dCut, ↓u_nCutN, ↓u_nCatNN, ↓u_d2N, ↓u_dNN, ↓u_tYes', ↓u_dS, List.set_cons_zero, List.set_cons_succ, dwipe, ite_true, ite_false, Bool.false_eq_true, Bool.true_eq_false, Bool.not_true, Bool.not_false, beq_self_eq_true, decide_eq_true_eq, Bool.not_eq_true', decide_eq_false_iff_not, mput_same, mput_put, dends, List.length_cons, List.length_nil, true_and, and_true, Nat.reduceAdd, Nat.reduceEqDiff, Int.reduceToNat, ↓x_tabLen, ↓x_fr0, ↓x_fr1, ↓x_kn0, ↓x_kn1, ↓x_map, ↓x_at0, ↓x_at1, ↓x_len, ↓x_row, ↓x_cut, ↓x_tup2, ↓x_tupfr, ↓x_isiT, ↓x_isiK, ↓x_isiF, ↓x_notN, ↓x_getT, ↓x_putT, ↓x_notNM]
            refine at_ rs kl _ ?_
            simp only [hr.1, ↓bK_bl, ↓lstK_lst, ↓intK_int, ↓optK_some, ↓tBool_, ↓dAndV_, ↓dOrV_, ↓dNotV_, ↓gI_, ↓gI0_, ↓gAdd_int, ↓gAdd_str, ↓gAdd_tup, ↓gAdd_ref, ↓gNeg_, ↓gIx_tup, ↓gIx_rl, ↓gIx_ref, ↓gIx_str, ↓atK_0, ↓atK_1, ↓atK_2, ↓atK_3, ↓atK_4, ↓atK_5, ↓atK_6, ↓atK_7, ↓atK_last, ↓setK_0, ↓setK_1, ↓setK_2, ↓setK_3, ↓gLen_str, ↓gLen_tup, ↓gLen_rl, ↓gLen_ref, ↓gTupleOf_tup, ↓gTupleOf_rl, ↓gTupleOf_ref, ↓seqK_tup, ↓seqK_rl, ↓seqK_ref, ↓nListOf_, ↓isLst_ref, ↓gAppend_, ↓gInsert_, ↓isStr_str, ↓strK_str, ↓gStrCount_, ↓dJoinN_, ↓gPopAt_, ↓nRange1_, ↓gPop_, ↓refK_ref, ↓dExtN_, ↓gExt_, ↓gSetIx_, ↓itK_some, ↓iRow_, ↓rowIt_tup, ↓rowIt_rl, ↓rowIt_str, ↓iRng1_, ↓iRng2_, ↓iZip_, ↓iEnum_, ↓gNil_, ↓gCons_, ↓gTup_, ↓gTup_ref, ↓gAbs_, ↓gMax2_, ↓gMin2_, ↓gInt_int, ↓gInt_bl, ↓gLe_int, ↓gIsN_non, ↓gIsN_tup, ↓gIsN_int, ↓gIsN_str, ↓gIsN_ref, ↓gIsN_bl, ↓isi_bool_bool, ↓isi_bool_int, ↓isi_int_int, ↓isi_int_bool, ↓isi_tuple_tup, ↓isi_int_tup, ↓isi_bool_tup, ↓isi_str_str, ↓isi_tuple_int, ↓isi_tuple_non, ↓gEq_int, ↓gNe_int, ↓gEq_bl, ↓gNe_bl, ↓gEq_str, ↓gNe_str, ↓gEq_int_non, ↓oNone_, ↓oSome_, ↓gCut_str, ↓gCut_tup, ↓gCut_ref, ↓gCut_rl, ↓rowK_rl, ↓rowK_ref, ↓nCut_, ↓nSorted_, ↓gSorted1_, ↓nRev_, ↓nCatEN_, ↓nRep_, ↓tupK_tup, ↓keysD_two, ↓dtK_dT, ↓gGetT_, ↓gPutT_, ↓nKeysT_, ↓gIsB_, ↓nRepE_, ↓dIxN_, ↓gSumN_, ↓gAllN_, ↓gAnyN_, ↓gAnyI_, ↓gMaxN_, ↓gMax1_rl, ↓gMax1_ref, ↓gMinN_, ↓gMin1_rl, ↓gMin1_ref, ↓gSum_rl, ↓gSum_ref, ↓dChain_, ↓sAug_, ↓gIndex_, ↓dVar_0, ↓dVar_1, ↓dVar_2, ↓dVar_3, ↓dVar_4, ↓dVar_5, ↓dVar_6, ↓dVar_7, ↓dVar_8, ↓dVar_9, ↓dVar_10, ↓dVar_11, ↓dVar_12, ↓dVar_13, ↓dVar_14, ↓dVar_15, ↓dVar_16, ↓dVar_17, ↓dVar_18, ↓dVar_19, ↓dVar_20, ↓dVar_21, ↓dVar_22, ↓dVar_23, ↓dVar_24, ↓dVar_25, ↓sz_0, ↓sz_1, ↓sz_2, ↓sz_3, ↓sz_4, ↓sz_5, ↓sz_6, ↓sz_7, ↓sz_8, ↓sz_9, ↓sz_10, ↓sz_11, ↓sz_12, ↓sz_13, ↓u_dNewT, ↓u_sPutT, ↓u_sSeq, ↓u_sNext, ↓u_sSet, ↓u_sSetN, ↓u_sAsg, ↓u_sIf, ↓u_sRet, ↓u_sRetN, ↓u_sDrop, ↓u_sPar, ↓u_sFor, ↓u_sBreak, ↓u_sCont, ↓u_dC, ↓u_d2, ↓u_d1, ↓u_dTup, ↓u_dNew, ↓u_aNil, ↓u_aCons, ↓u_nLst, ↓u_tAnd', ↓u_tOr', ↓u_tNot', ↓u_dIf, ↓u_gName', ↓u_dCall, ↓u_dB, ↓u_dLenN, ↓u_dTupN, ↓u_dM, ↓u_iNew, ↓u_nLc, ↓u_dN1, ↓u_dCut, ↓u_nCutN, ↓u_nCatNN, ↓u_d2N, ↓u_dNN, ↓u_tYes', ↓u_dS, List.set_cons_zero, List.set_cons_succ, dwipe, ite_true, ite_false, Bool.false_eq_true, Bool.true_eq_false, Bool.not_true, Bool.not_false, beq_self_eq_true, decide_eq_true_eq, Bool.not_eq_true', decide_eq_false_iff_not, mput_same, mput_put, dends, List.length_cons, List.length_nil, true_and, and_true, Nat.reduceAdd, Nat.reduceEqDiff, Int.reduceToNat, ↓x_tabLen, ↓x_fr0, ↓x_fr1, ↓x_kn0, ↓x_kn1, ↓x_map, ↓x_at0, ↓x_at1, ↓x_len, ↓x_row, ↓x_cut, ↓x_tup2, ↓x_tupfr, ↓x_isiT, ↓x_isiK, ↓x_isiF, ↓x_notN, ↓x_getT, ↓x_putT, ↓x_notNM]
            refine at_ints (by omega) (by rw [hr.2.2.2.2.1]; omega) fun y hy => ?_
            have hy9 := hr.2.2.2.2.2 y hy
            refine ⟨small_div (by decide) (by decide), small_div (by decide) (by decide), ?_⟩
            have hb : ∀ z : Int, z = 0 ∨ z = 1 → gI CMulA (fun i j => D.int (i * j)) (D.int y) (D.int z) M fun y m4 => (us.map D.int).length < sizeLine ∧ W (us.map D.int ++ [y]) m4 := by
              intro z hz01
              refine ⟨mul_r (by omega) (by omega), by rw [List.length_map]; simp at hu; omega, hW3 _ _ ⟨rfl, fun z hz => hx z (List.mem_cons_of_mem _ hz), us ++ [y * z], by simp, by simp at hu ⊢; omega, ?_⟩⟩
              intro u hu'
              rcases List.mem_append.mp hu' with h | h
              · exact hz u h
              · simp at h
                rcases hz01 with rfl | rfl
                · omega
                · omega
            refine hb _ ?_
            split
            · exact .inr rfl
            · exact .inl rfl
        · exact hnx _ _ ⟨rs, _, _, rfl, hW, hT⟩
      -- the second way
      have way2 : ∀ (rs : List (Addr × List Int)) (q10 : Option D) (M : Mu), Rws a b rw_ n rs M → TDeck (N + 600) M a b → t_law_table_s6 { nx := nx, rt := fin R, bk := t_law_table_s9 (dends R), ct := nx } [some (.ref a), some (.int most), some (.int n), some (.ref g), some (.ref rw_), some (.int w), some (.int (0 + k)), none, none, q9, q10] M := by
        intro rs q10 M hW hT
        have kl : k < rs.length := by rw [hW.len]; exact hk
        simp only [t_law_table_s6, ↓bK_bl, ↓lstK_lst, ↓intK_int, ↓optK_some, ↓tBool_, ↓dAndV_, ↓dOrV_, ↓dNotV_, ↓gI_, ↓gI0_, ↓gAdd_int, ↓gAdd_str, ↓gAdd_tup, ↓gAdd_ref, ↓gNeg_, ↓gIx_tup, ↓gIx_rl, ↓gIx_ref, ↓gIx_str, ↓atK_0, ↓atK_1, ↓atK_2, ↓atK_3, ↓atK_4, ↓atK_5, ↓atK_6, ↓atK_7, ↓atK_last, ↓setK_0, ↓setK_1, ↓setK_2, ↓setK_3, ↓gLen_str, ↓gLen_tup, ↓gLen_rl, ↓gLen_ref, ↓gTupleOf_tup, ↓gTupleOf_rl, ↓gTupleOf_ref, ↓seqK_tup, ↓seqK_rl, ↓seqK_ref, ↓nListOf_, ↓isLst_ref, ↓gAppend_, ↓gInsert_, ↓isStr_str, ↓strK_str, ↓gStrCount_, ↓dJoinN_, ↓gPopAt_, ↓nRange1_, ↓gPop_, ↓refK_ref, ↓dExtN_, ↓gExt_, ↓gSetIx_, ↓itK_some, ↓iRow_, ↓rowIt_tup, ↓rowIt_rl, ↓rowIt_str, ↓iRng1_, ↓iRng2_, ↓iZip_, ↓iEnum_, ↓gNil_, ↓gCons_, ↓gTup_, ↓gTup_ref, ↓gAbs_, ↓gMax2_, ↓gMin2_, ↓gInt_int, ↓gInt_bl, ↓gLe_int, ↓gIsN_non, ↓gIsN_tup, ↓gIsN_int, ↓gIsN_str, ↓gIsN_ref, ↓gIsN_bl, ↓isi_bool_bool, ↓isi_bool_int, ↓isi_int_int, ↓isi_int_bool, ↓isi_tuple_tup, ↓isi_int_tup, ↓isi_bool_tup, ↓isi_str_str, ↓isi_tuple_int, ↓isi_tuple_non, ↓gEq_int, ↓gNe_int, ↓gEq_bl, ↓gNe_bl, ↓gEq_str, ↓gNe_str, ↓gEq_int_non, ↓oNone_, ↓oSome_, ↓gCut_str, ↓gCut_tup, ↓gCut_ref, ↓gCut_rl, ↓rowK_rl, ↓rowK_ref, ↓nCut_, ↓nSorted_, ↓gSorted1_, ↓nRev_, ↓nCatEN_, ↓nRep_, ↓tupK_tup, ↓keysD_two, ↓dtK_dT, ↓gGetT_, ↓gPutT_, ↓nKeysT_, ↓gIsB_, ↓nRepE_, ↓dIxN_, ↓gSumN_, ↓gAllN_, ↓gAnyN_, ↓gAnyI_, ↓gMaxN_, ↓gMax1_rl, ↓gMax1_ref, ↓gMinN_, ↓gMin1_rl, ↓gMin1_ref, ↓gSum_rl, ↓gSum_ref, ↓dChain_, ↓sAug_, ↓gIndex_, ↓dVar_0, ↓dVar_1, ↓dVar_2, ↓dVar_3, ↓dVar_4, ↓dVar_5, ↓dVar_6, ↓dVar_7, ↓dVar_8, ↓dVar_9, ↓dVar_10, ↓dVar_11, ↓dVar_12, ↓dVar_13, ↓dVar_14, ↓dVar_15, ↓dVar_16, ↓dVar_17, ↓dVar_18, ↓dVar_19, ↓dVar_20, ↓dVar_21, ↓dVar_22, ↓dVar_23, ↓dVar_24, ↓dVar_25, ↓sz_0, ↓sz_1, ↓sz_2, ↓sz_3, ↓sz_4, ↓sz_5, ↓sz_6, ↓sz_7, ↓sz_8, ↓sz_9, ↓sz_10, ↓sz_11, ↓sz_12, ↓sz_13, ↓u_dNewT, ↓u_sPutT, ↓u_sSeq, ↓u_sNext, ↓u_sSet, ↓u_sSetN, ↓u_sAsg, ↓u_sIf, ↓u_sRet, ↓u_sRetN, ↓u_sDrop, ↓u_sPar, ↓u_sFor, ↓u_sBreak, ↓u_sCont, ↓u_dC, ↓u_d2, ↓u_d1, ↓u_dTup, ↓u_dNew, ↓u_aNil, ↓u_aCons, ↓u_nLst, ↓u_tAnd', ↓u_tOr', ↓u_tNot', ↓u_dIf, ↓u_gName', ↓u_dCall, ↓u_dB, ↓u_dLenN, ↓u_dTupN, ↓u_dM, ↓u_iNew, ↓u_nLc, ↓u_dN1, ↓u_dCut, ↓u_nCutN, ↓u_nCatNN, ↓u_d2N, ↓u_dNN, ↓u_tYes', ↓u_dS, List.set_cons_zero, List.set_cons_succ, dwipe, ite_true, ite_false, Bool.false_eq_true, Bool.true_eq_false, Bool.not_true, Bool.not_false, beq_self_eq_true, decide_eq_true_eq, Bool.not_eq_true', decide_eq_false_iff_not, mput_same, mput_put, dends, List.length_cons, List.length_nil, true_and, and_true, Nat.reduceAdd, Nat.reduceEqDiff, Int.reduceToNat, ↓x_tabLen, ↓x_fr0, ↓x_fr1, ↓x_kn0, ↓x_kn1, ↓x_map, ↓x_at0, ↓x_at1, ↓x_len, ↓x_row, ↓x_cut, ↓x_tup2, ↓x_tupfr, ↓x_isiT, ↓x_isiK, ↓x_isiF, ↓x_notN, ↓x_getT, ↓x_putT, ↓x_notNM]
        split
        · refine ⟨by omega, ?_⟩
          rw [show ((n : Nat) : Int).toNat = n by omega, rng_map]
          refine lc_ind _ (fun xs acc M2 => M = M2 ∧ ∃ us : List Int, acc = us.map D.int ∧ us.length + xs.length = n ∧ ∀ z ∈ us, 0 ≤ z ∧ z ≤ 9) ?_ ?_ _ _ _ ⟨rfl, [], rfl, by simp, by simp⟩
          · rintro acc _ ⟨rfl, us, rfl, hu, hz⟩
            refine ⟨trivial, fun c hc => ?_⟩
            simp only [List.length_nil, Nat.add_zero] at hu
            have cf := hW.fresh hc
            have ca := hT.na hc
            have cb := hT.nb hc
            have hW2 := hW.new (o := .lst (us.map D.int)) hc
            have hT2 := hT.new (o := .lst (us.map D.int)) hc
            have hC : mput M c (.lst (us.map D.int)) c = some (.lst (us.map D.int)) := mput_same
            generalize mput M c (.lst (us.map D.int)) = M3 at hW2 hT2 hC ⊢
            simp only [hW2.rwL, ↓bK_bl, ↓lstK_lst, ↓intK_int, ↓optK_some, ↓tBool_, ↓dAndV_, ↓dOrV_, ↓dNotV_, ↓gI_, ↓gI0_, ↓gAdd_int, ↓gAdd_str, ↓gAdd_tup, ↓gAdd_ref, ↓gNeg_, ↓gIx_tup, ↓gIx_rl, ↓gIx_ref, ↓gIx_str, ↓atK_0, ↓atK_1, ↓atK_2, ↓atK_3, ↓atK_4, ↓atK_5, ↓atK_6, ↓atK_7, ↓atK_last, ↓setK_0, ↓setK_1, ↓setK_2, ↓setK_3, ↓gLen_str, ↓gLen_tup, ↓gLen_rl, ↓gLen_ref, ↓gTupleOf_tup, ↓gTupleOf_rl, ↓gTupleOf_ref, ↓seqK_tup, ↓seqK_rl, ↓seqK_ref, ↓nListOf_, ↓isLst_ref, ↓gAppend_, ↓gInsert_, ↓isStr_str, ↓strK_str, ↓gStrCount_, ↓dJoinN_, ↓gPopAt_, ↓nRange1_, ↓gPop_, ↓refK_ref, ↓dExtN_, ↓gExt_, ↓gSetIx_, ↓itK_some, ↓iRow_, ↓rowIt_tup, ↓rowIt_rl, ↓rowIt_str, ↓iRng1_, ↓iRng2_, ↓iZip_, ↓iEnum_, ↓gNil_, ↓gCons_, ↓gTup_, ↓gTup_ref, ↓gAbs_, ↓gMax2_, ↓gMin2_, ↓gInt_int, ↓gInt_bl, ↓gLe_int, ↓gIsN_non, ↓gIsN_tup, ↓gIsN_int, ↓gIsN_str, ↓gIsN_ref, ↓gIsN_bl, ↓isi_bool_bool, ↓isi_bool_int, ↓isi_int_int, ↓isi_int_bool, ↓isi_tuple_tup, ↓isi_int_tup, ↓isi_bool_tup, ↓isi_str_str, ↓isi_tuple_int, ↓isi_tuple_non, ↓gEq_int, ↓gNe_int, ↓gEq_bl, ↓gNe_bl, ↓gEq_str, ↓gNe_str, ↓gEq_int_non, ↓oNone_, ↓oSome_, ↓gCut_str, ↓gCut_tup, ↓gCut_ref, ↓gCut_rl, ↓rowK_rl, ↓rowK_ref, ↓nCut_, ↓nSorted_, ↓gSorted1_, ↓nRev_, ↓nCatEN_, ↓nRep_, ↓tupK_tup, ↓keysD_two, ↓dtK_dT, ↓gGetT_, ↓gPutT_, ↓nKeysT_, ↓gIsB_, ↓nRepE_, ↓dIxN_, ↓gSumN_, ↓gAllN_, ↓gAnyN_, ↓gAnyI_, ↓gMaxN_, ↓gMax1_rl, ↓gMax1_ref, ↓gMinN_, ↓gMin1_rl, ↓gMin1_ref, ↓gSum_rl, ↓gSum_ref, ↓dChain_, ↓sAug_, ↓gIndex_, ↓dVar_0, ↓dVar_1, ↓dVar_2, ↓dVar_3, ↓dVar_4, ↓dVar_5, ↓dVar_6, ↓dVar_7, ↓dVar_8, ↓dVar_9, ↓dVar_10, ↓dVar_11, ↓dVar_12, ↓dVar_13, ↓dVar_14, ↓dVar_15, ↓dVar_16, ↓dVar_17, ↓dVar_18, ↓dVar_19, ↓dVar_20, ↓dVar_21, ↓dVar_22, ↓dVar_23, ↓dVar_24, ↓dVar_25, ↓sz_0, ↓sz_1, ↓sz_2, ↓sz_3, ↓sz_4, ↓sz_5, ↓sz_6, ↓sz_7, ↓sz_8, ↓sz_9, ↓sz_10, ↓sz_11, ↓sz_12, ↓sz_13, ↓u_dNewT, ↓u_sPutT, ↓u_sSeq, ↓u_sNext, ↓u_sSet, ↓u_sSetN, ↓u_sAsg, ↓u_sIf, ↓u_sRet, ↓u_sRetN, ↓u_sDrop, ↓u_sPar, ↓u_sFor, ↓u_sBreak, ↓u_sCont, ↓u_dC, ↓u_d2, ↓u_d1, ↓u_dTup, ↓u_dNew, ↓u_aNil, ↓u_aCons, ↓u_nLst, ↓u_tAnd', ↓u_tOr', ↓u_tNot', ↓u_dIf, ↓u_gName', ↓u_dCall, ↓u_dB, ↓u_dLenN, ↓u_dTupN, ↓u_dM, ↓u_iNew, ↓u_nLc, ↓u_dN1, ↓u_dCut, ↓u_nCutN, ↓u_nCatNN, ↓u_d2N, ↓u_dNN, ↓u_tYes', ↓u_dS, List.set_cons_zero, List.set_cons_succ, dwipe, ite_true, ite_false, Bool.false_eq_true, Bool.true_eq_false, Bool.not_true, Bool.not_false, beq_self_eq_true, decide_eq_true_eq, Bool.not_eq_true', decide_eq_false_iff_not, mput_same, mput_put, dends, List.length_cons, List.length_nil, true_and, and_true, Nat.reduceAdd, Nat.reduceEqDiff, Int.reduceToNat, ↓x_tabLen, ↓x_fr0, ↓x_fr1, ↓x_kn0, ↓x_kn1, ↓x_map, ↓x_at0, ↓x_at1, ↓x_len, ↓x_row, ↓x_cut, ↓x_tup2, ↓x_tupfr, ↓x_isiT, ↓x_isiK, ↓x_isiF, ↓x_notN, ↓x_getT, ↓x_putT, ↓x_notNM]
            refine set_ rs kl c us _ ?_
            exact way3 _ _ _ (hW2.set k hC ca cb cf.1 cf.2 ⟨hu, hz⟩) (hT2.put hW.rwa.1 hW.rwa.2)
          · rintro x xs acc _ W hW3 ⟨rfl, us, rfl, hu, hz⟩
            refine ⟨trivial, ?_⟩
            try simp only [↓bK_bl, ↓lstK_lst, ↓intK_int, ↓optK_some, ↓tBool_, ↓dAndV_, ↓dOrV_, ↓dNotV_, ↓gI_, ↓gI0_, ↓gAdd_int, ↓gAdd_str, ↓gAdd_tup, ↓gAdd_ref, ↓gNeg_, ↓gIx_tup, ↓gIx_rl, ↓gIx_ref, ↓gIx_str, ↓atK_0, ↓atK_1, ↓atK_2, ↓atK_3, ↓atK_4, ↓atK_5, ↓atK_6, ↓atK_7, ↓atK_last, ↓setK_0, ↓setK_1, ↓setK_2, ↓setK_3, ↓gLen_str, ↓gLen_tup, ↓gLen_rl, ↓gLen_ref, ↓gTupleOf_tup, ↓gTupleOf_rl, ↓gTupleOf_ref, ↓seqK_tup, ↓seqK_rl, ↓seqK_ref, ↓nListOf_, ↓isLst_ref, ↓gAppend_, ↓gInsert_, ↓isStr_str, ↓strK_str, ↓gStrCount_, ↓dJoinN_, ↓gPopAt_, ↓nRange1_, ↓gPop_, ↓refK_ref, ↓dExtN_, ↓gExt_, ↓gSetIx_, ↓itK_some, ↓iRow_, ↓rowIt_tup, ↓rowIt_rl, ↓rowIt_str, ↓iRng1_, ↓iRng2_, ↓iZip_, ↓iEnum_, ↓gNil_, ↓gCons_, ↓gTup_, ↓gTup_ref, ↓gAbs_, ↓gMax2_, ↓gMin2_, ↓gInt_int, ↓gInt_bl, ↓gLe_int, ↓gIsN_non, ↓gIsN_tup, ↓gIsN_int, ↓gIsN_str, ↓gIsN_ref, ↓gIsN_bl, ↓isi_bool_bool, ↓isi_bool_int, ↓isi_int_int, ↓isi_int_bool, ↓isi_tuple_tup, ↓isi_int_tup, ↓isi_bool_tup, ↓isi_str_str, ↓isi_tuple_int, ↓isi_tuple_non, ↓gEq_int, ↓gNe_int, ↓gEq_bl, ↓gNe_bl, ↓gEq_str, ↓gNe_str, ↓gEq_int_non, ↓oNone_, ↓oSome_, ↓gCut_str, ↓gCut_tup, ↓gCut_ref, ↓gCut_rl, ↓rowK_rl, ↓rowK_ref, ↓nCut_, ↓nSorted_, ↓gSorted1_, ↓nRev_, ↓nCatEN_, ↓nRep_, ↓tupK_tup, ↓keysD_two, ↓dtK_dT, ↓gGetT_, ↓gPutT_, ↓nKeysT_, ↓gIsB_, ↓nRepE_, ↓dIxN_, ↓gSumN_, ↓gAllN_, ↓gAnyN_, ↓gAnyI_, ↓gMaxN_, ↓gMax1_rl, ↓gMax1_ref, ↓gMinN_, ↓gMin1_rl, ↓gMin1_ref, ↓gSum_rl, ↓gSum_ref, ↓dChain_, ↓sAug_, ↓gIndex_, ↓dVar_0, ↓dVar_1, ↓dVar_2, ↓dVar_3, ↓dVar_4, ↓dVar_5, ↓dVar_6, ↓dVar_7, ↓dVar_8, ↓dVar_9, ↓dVar_10, ↓dVar_11, ↓dVar_12, ↓dVar_13, ↓dVar_14, ↓dVar_15, ↓dVar_16, ↓dVar_17, ↓dVar_18, ↓dVar_19, ↓dVar_20, ↓dVar_21, ↓dVar_22, ↓dVar_23, ↓dVar_24, ↓dVar_25, ↓sz_0, ↓sz_1, ↓sz_2, ↓sz_3, ↓sz_4, ↓sz_5, ↓sz_6, ↓sz_7, ↓sz_8, ↓sz_9, ↓sz_10, ↓sz_11, ↓sz_12, ↓sz_13, ↓u_dNewT, ↓u_sPutT, ↓u_sSeq, ↓u_sNext, ↓u_sSet, ↓u_sSetN, ↓u_sAsg, ↓u_sIf, ↓u_sRet, ↓u_sRetN, ↓u_sDrop, ↓u_sPar, ↓u_sFor, ↓u_sBreak, ↓u_sCont, ↓u_dC, ↓u_d2, ↓u_d1, ↓u_dTup, ↓u_dNew, ↓u_aNil, ↓u_aCons, ↓u_nLst, ↓u_tAnd', ↓u_tOr', ↓u_tNot', ↓u_dIf, ↓u_gName', ↓u_dCall, ↓u_dB, ↓u_dLenN, ↓u_dTupN, ↓u_dM, ↓u_iNew, ↓u_nLc, ↓u_dN1, ↓u_dCut, ↓u_nCutN, ↓u_nCatNN, ↓u_d2N, ↓u_dNN, ↓u_tYes', ↓u_dS, List.set_cons_zero, List.set_cons_succ, dwipe, ite_true, ite_false, Bool.false_eq_true, Bool.true_eq_false, Bool.not_true, Bool.not_false, beq_self_eq_true, decide_eq_true_eq, Bool.not_eq_true', decide_eq_false_iff_not, mput_same, mput_put, dends, List.length_cons, List.length_nil, true_and, and_true, Nat.reduceAdd, Nat.reduceEqDiff, Int.reduceToNat, ↓x_tabLen, ↓x_fr0, ↓x_fr1, ↓x_kn0, ↓x_kn1, ↓x_map, ↓x_at0, ↓x_at1, ↓x_len, ↓x_row, ↓x_cut, ↓x_tup2, ↓x_tupfr, ↓x_isiT, ↓x_isiK, ↓x_isiF, ↓x_notN, ↓x_getT, ↓x_putT, ↓x_notNM]
            refine ⟨by omega, ?_⟩
            have h01 : ∀ c : Int, c = 0 ∨ c = 1 → (us.map D.int).length < sizeLine ∧ W (us.map D.int ++ [.int c]) M := by
              intro c hc
              refine ⟨by rw [List.length_map]; simp at hu; omega, hW3 _ _ ⟨rfl, us ++ [c], by simp, by simp at hu ⊢; omega, ?_⟩⟩
              intro u hu'
              rcases List.mem_append.mp hu' with h | h
              · exact hz u h
              · simp at h
                omega
            refine h01 _ ?_
            split
            · exact .inr rfl
            · exact .inl rfl
        · exact way3 rs _ M hW hT
      simp only [t_law_table_b5, ↓bK_bl, ↓lstK_lst, ↓intK_int, ↓optK_some, ↓tBool_, ↓dAndV_, ↓dOrV_, ↓dNotV_, ↓gI_, ↓gI0_, ↓gAdd_int, ↓gAdd_str, ↓gAdd_tup, ↓gAdd_ref, ↓gNeg_, ↓gIx_tup, ↓gIx_rl, ↓gIx_ref, ↓gIx_str, ↓atK_0, ↓atK_1, ↓atK_2, ↓atK_3, ↓atK_4, ↓atK_5, ↓atK_6, ↓atK_7, ↓atK_last, ↓setK_0, ↓setK_1, ↓setK_2, ↓setK_3, ↓gLen_str, ↓gLen_tup, ↓gLen_rl, ↓gLen_ref, ↓gTupleOf_tup, ↓gTupleOf_rl, ↓gTupleOf_ref, ↓seqK_tup, ↓seqK_rl, ↓seqK_ref, ↓nListOf_, ↓isLst_ref, ↓gAppend_, ↓gInsert_, ↓isStr_str, ↓strK_str, ↓gStrCount_, ↓dJoinN_, ↓gPopAt_, ↓nRange1_, ↓gPop_, ↓refK_ref, ↓dExtN_, ↓gExt_, ↓gSetIx_, ↓itK_some, ↓iRow_, ↓rowIt_tup, ↓rowIt_rl, ↓rowIt_str, ↓iRng1_, ↓iRng2_, ↓iZip_, ↓iEnum_, ↓gNil_, ↓gCons_, ↓gTup_, ↓gTup_ref, ↓gAbs_, ↓gMax2_, ↓gMin2_, ↓gInt_int, ↓gInt_bl, ↓gLe_int, ↓gIsN_non, ↓gIsN_tup, ↓gIsN_int, ↓gIsN_str, ↓gIsN_ref, ↓gIsN_bl, ↓isi_bool_bool, ↓isi_bool_int, ↓isi_int_int, ↓isi_int_bool, ↓isi_tuple_tup, ↓isi_int_tup, ↓isi_bool_tup, ↓isi_str_str, ↓isi_tuple_int, ↓isi_tuple_non, ↓gEq_int, ↓gNe_int, ↓gEq_bl, ↓gNe_bl, ↓gEq_str, ↓gNe_str, ↓gEq_int_non, ↓oNone_, ↓oSome_, ↓gCut_str, ↓gCut_tup, ↓gCut_ref, ↓gCut_rl, ↓rowK_rl, ↓rowK_ref, ↓nCut_, ↓nSorted_, ↓gSorted1_, ↓nRev_, ↓nCatEN_, ↓nRep_, ↓tupK_tup, ↓keysD_two, ↓dtK_dT, ↓gGetT_, ↓gPutT_, ↓nKeysT_, ↓gIsB_, ↓nRepE_, ↓dIxN_, ↓gSumN_, ↓gAllN_, ↓gAnyN_, ↓gAnyI_, ↓gMaxN_, ↓gMax1_rl, ↓gMax1_ref, ↓gMinN_, ↓gMin1_rl, ↓gMin1_ref, ↓gSum_rl, ↓gSum_ref, ↓dChain_, ↓sAug_, ↓gIndex_, ↓dVar_0, ↓dVar_1, ↓dVar_2, ↓dVar_3, ↓dVar_4, ↓dVar_5, ↓dVar_6, ↓dVar_7, ↓dVar_8, ↓dVar_9, ↓dVar_10, ↓dVar_11, ↓dVar_12, ↓dVar_13, ↓dVar_14, ↓dVar_15, ↓dVar_16, ↓dVar_17, ↓dVar_18, ↓dVar_19, ↓dVar_20, ↓dVar_21, ↓dVar_22, ↓dVar_23, ↓dVar_24, ↓dVar_25, ↓sz_0, ↓sz_1, ↓sz_2, ↓sz_3, ↓sz_4, ↓sz_5, ↓sz_6, ↓sz_7, ↓sz_8, ↓sz_9, ↓sz_10, ↓sz_11, ↓sz_12, ↓sz_13, ↓u_dNewT, ↓u_sPutT, ↓u_sSeq, ↓u_sNext, ↓u_sSet, ↓u_sSetN, ↓u_sAsg, ↓u_sIf, ↓u_sRet, ↓u_sRetN, ↓u_sDrop, ↓u_sPar, ↓u_sFor, ↓u_sBreak, ↓u_sCont, ↓u_dC, ↓u_d2, ↓u_d1, ↓u_dTup, ↓u_dNew, ↓u_aNil, ↓u_aCons, ↓u_nLst, ↓u_tAnd', ↓u_tOr', ↓u_tNot', ↓u_dIf, ↓u_gName', ↓u_dCall, ↓u_dB, ↓u_dLenN, ↓u_dTupN, ↓u_dM, ↓u_iNew, ↓u_nLc, ↓u_dN1, ↓u_dCut, ↓u_nCutN, ↓u_nCatNN, ↓u_d2N, ↓u_dNN, ↓u_tYes', ↓u_dS, List.set_cons_zero, List.set_cons_succ, dwipe, ite_true, ite_false, Bool.false_eq_true, Bool.true_eq_false, Bool.not_true, Bool.not_false, beq_self_eq_true, decide_eq_true_eq, Bool.not_eq_true', decide_eq_false_iff_not, mput_same, mput_put, dends, List.length_cons, List.length_nil, true_and, and_true, Nat.reduceAdd, Nat.reduceEqDiff, Int.reduceToNat, ↓x_tabLen, ↓x_fr0, ↓x_fr1, ↓x_kn0, ↓x_kn1, ↓x_map, ↓x_at0, ↓x_at1, ↓x_len, ↓x_row, ↓x_cut, ↓x_tup2, ↓x_tupfr, ↓x_isiT, ↓x_isiK, ↓x_isiF, ↓x_notN, ↓x_getT, ↓x_putT, ↓x_notNM]
      split
      · refine ⟨by omega, fun c1 hc1 => ?_⟩
        have ez : (List.replicate (0 + (k : Int)).toNat [D.int 0]).flatten = (List.replicate k (0 : Int)).map D.int := by
          rw [show (0 + (k : Int)).toNat = k by omega]
          simp
        rw [ez]
        have hW1 := hW.new (o := .lst ((List.replicate k (0 : Int)).map D.int)) hc1
        have hT1 := hT.new (o := .lst ((List.replicate k (0 : Int)).map D.int)) hc1
        have hC1 : mput M c1 (.lst ((List.replicate k (0 : Int)).map D.int)) c1 = some (.lst ((List.replicate k (0 : Int)).map D.int)) := mput_same
        generalize mput M c1 (.lst ((List.replicate k (0 : Int)).map D.int)) = M1 at hW1 hT1 hC1 ⊢
        have hr := hW1.row _ (List.getElem_mem kl)
        simp only [hW1.rwL, ↓bK_bl, ↓lstK_lst, ↓intK_int, ↓optK_some, ↓tBool_, ↓dAndV_, ↓dOrV_, ↓dNotV_, ↓gI_, ↓gI0_, ↓gAdd_int, ↓gAdd_str, ↓gAdd_tup, ↓gAdd_ref, ↓gNeg_, ↓gIx_tup, ↓gIx_rl, ↓gIx_ref, ↓gIx_str, ↓atK_0, ↓atK_1, ↓atK_2, ↓atK_3, ↓atK_4, ↓atK_5, ↓atK_6, ↓atK_7, ↓atK_last, ↓setK_0, ↓setK_1, ↓setK_2, ↓setK_3, ↓gLen_str, ↓gLen_tup, ↓gLen_rl, ↓gLen_ref, ↓gTupleOf_tup, ↓gTupleOf_rl, ↓gTupleOf_ref, ↓seqK_tup, ↓seqK_rl, ↓seqK_ref, ↓nListOf_, ↓isLst_ref, ↓gAppend_, ↓gInsert_, ↓isStr_str, ↓strK_str, ↓gStrCount_, ↓dJoinN_, ↓gPopAt_, ↓nRange1_, ↓gPop_, ↓refK_ref, ↓dExtN_, ↓gExt_, ↓gSetIx_, ↓itK_some, ↓iRow_, ↓rowIt_tup, ↓rowIt_rl, ↓rowIt_str, ↓iRng1_, ↓iRng2_, ↓iZip_, ↓iEnum_, ↓gNil_, ↓gCons_, ↓gTup_, ↓gTup_ref, ↓gAbs_, ↓gMax2_, ↓gMin2_, ↓gInt_int, ↓gInt_bl, ↓gLe_int, ↓gIsN_non, ↓gIsN_tup, ↓gIsN_int, ↓gIsN_str, ↓gIsN_ref, ↓gIsN_bl, ↓isi_bool_bool, ↓isi_bool_int, ↓isi_int_int, ↓isi_int_bool, ↓isi_tuple_tup, ↓isi_int_tup, ↓isi_bool_tup, ↓isi_str_str, ↓isi_tuple_int, ↓isi_tuple_non, ↓gEq_int, ↓gNe_int, ↓gEq_bl, ↓gNe_bl, ↓gEq_str, ↓gNe_str, ↓gEq_int_non, ↓oNone_, ↓oSome_, ↓gCut_str, ↓gCut_tup, ↓gCut_ref, ↓gCut_rl, ↓rowK_rl, ↓rowK_ref, ↓nCut_, ↓nSorted_, ↓gSorted1_, ↓nRev_, ↓nCatEN_, ↓nRep_, ↓tupK_tup, ↓keysD_two, ↓dtK_dT, ↓gGetT_, ↓gPutT_, ↓nKeysT_, ↓gIsB_, ↓nRepE_, ↓dIxN_, ↓gSumN_, ↓gAllN_, ↓gAnyN_, ↓gAnyI_, ↓gMaxN_, ↓gMax1_rl, ↓gMax1_ref, ↓gMinN_, ↓gMin1_rl, ↓gMin1_ref, ↓gSum_rl, ↓gSum_ref, ↓dChain_, ↓sAug_, ↓gIndex_, ↓dVar_0, ↓dVar_1, ↓dVar_2, ↓dVar_3, ↓dVar_4, ↓dVar_5, ↓dVar_6, ↓dVar_7, ↓dVar_8, ↓dVar_9, ↓dVar_10, ↓dVar_11, ↓dVar_12, ↓dVar_13, ↓dVar_14, ↓dVar_15, ↓dVar_16, ↓dVar_17, ↓dVar_18, ↓dVar_19, ↓dVar_20, ↓dVar_21, ↓dVar_22, ↓dVar_23, ↓dVar_24, ↓dVar_25, ↓sz_0, ↓sz_1, ↓sz_2, ↓sz_3, ↓sz_4, ↓sz_5, ↓sz_6, ↓sz_7, ↓sz_8, ↓sz_9, ↓sz_10, ↓sz_11, ↓sz_12, ↓sz_13, ↓u_dNewT, ↓u_sPutT, ↓u_sSeq, ↓u_sNext, ↓u_sSet, ↓u_sSetN, ↓u_sAsg, ↓u_sIf, ↓u_sRet, ↓u_sRetN, ↓u_sDrop, ↓u_sPar, ↓u_sFor, ↓u_sBreak, ↓u_sCont, ↓u_dC, ↓u_d2, ↓u_d1, ↓u_dTup, ↓u_dNew, ↓u_aNil, ↓u_aCons, ↓u_nLst, ↓u_tAnd', ↓u_tOr', ↓u_tNot', ↓u_dIf, ↓u_gName', ↓u_dCall, ↓u_dB, ↓u_dLenN, ↓u_dTupN, ↓u_dM, ↓u_iNew, ↓u_nLc, ↓u_dN1, ↓u_dCut, ↓u_nCutN, ↓u_nCatNN, ↓u_d2N, ↓u_dNN, ↓u_tYes', ↓u_dS, List.set_cons_zero, List.set_cons_succ, dwipe, ite_true, ite_false, Bool.false_eq_true, Bool.true_eq_false, Bool.not_true, Bool.not_false, beq_self_eq_true, decide_eq_true_eq, Bool.not_eq_true', decide_eq_false_iff_not, mput_same, mput_put, dends, List.length_cons, List.length_nil, true_and, and_true, Nat.reduceAdd, Nat.reduceEqDiff, Int.reduceToNat, ↓x_tabLen, ↓x_fr0, ↓x_fr1, ↓x_kn0, ↓x_kn1, ↓x_map, ↓x_at0, ↓x_at1, ↓x_len, ↓x_row, ↓x_cut, ↓x_tup2, ↓x_tupfr, ↓x_isiT, ↓x_isiK, ↓x_isiF, ↓x_notN, ↓x_getT, ↓x_putT, ↓x_notNM]
        refine at_ rs kl _ ?_
        simp only [hr.1, ↓bK_bl, ↓lstK_lst, ↓intK_int, ↓optK_some, ↓tBool_, ↓dAndV_, ↓dOrV_, ↓dNotV_, ↓gI_, ↓gI0_, ↓gAdd_int, ↓gAdd_str, ↓gAdd_tup, ↓gAdd_ref, ↓gNeg_, ↓gIx_tup, ↓gIx_rl, ↓gIx_ref, ↓gIx_str, ↓atK_0, ↓atK_1, ↓atK_2, ↓atK_3, ↓atK_4, ↓atK_5, ↓atK_6, ↓atK_7, ↓atK_last, ↓setK_0, ↓setK_1, ↓setK_2, ↓setK_3, ↓gLen_str, ↓gLen_tup, ↓gLen_rl, ↓gLen_ref, ↓gTupleOf_tup, ↓gTupleOf_rl, ↓gTupleOf_ref, ↓seqK_tup, ↓seqK_rl, ↓seqK_ref, ↓nListOf_, ↓isLst_ref, ↓gAppend_, ↓gInsert_, ↓isStr_str, ↓strK_str, ↓gStrCount_, ↓dJoinN_, ↓gPopAt_, ↓nRange1_, ↓gPop_, ↓refK_ref, ↓dExtN_, ↓gExt_, ↓gSetIx_, ↓itK_some, ↓iRow_, ↓rowIt_tup, ↓rowIt_rl, ↓rowIt_str, ↓iRng1_, ↓iRng2_, ↓iZip_, ↓iEnum_, ↓gNil_, ↓gCons_, ↓gTup_, ↓gTup_ref, ↓gAbs_, ↓gMax2_, ↓gMin2_, ↓gInt_int, ↓gInt_bl, ↓gLe_int, ↓gIsN_non, ↓gIsN_tup, ↓gIsN_int, ↓gIsN_str, ↓gIsN_ref, ↓gIsN_bl, ↓isi_bool_bool, ↓isi_bool_int, ↓isi_int_int, ↓isi_int_bool, ↓isi_tuple_tup, ↓isi_int_tup, ↓isi_bool_tup, ↓isi_str_str, ↓isi_tuple_int, ↓isi_tuple_non, ↓gEq_int, ↓gNe_int, ↓gEq_bl, ↓gNe_bl, ↓gEq_str, ↓gNe_str, ↓gEq_int_non, ↓oNone_, ↓oSome_, ↓gCut_str, ↓gCut_tup, ↓gCut_ref, ↓gCut_rl, ↓rowK_rl, ↓rowK_ref, ↓nCut_, ↓nSorted_, ↓gSorted1_, ↓nRev_, ↓nCatEN_, ↓nRep_, ↓tupK_tup, ↓keysD_two, ↓dtK_dT, ↓gGetT_, ↓gPutT_, ↓nKeysT_, ↓gIsB_, ↓nRepE_, ↓dIxN_, ↓gSumN_, ↓gAllN_, ↓gAnyN_, ↓gAnyI_, ↓gMaxN_, ↓gMax1_rl, ↓gMax1_ref, ↓gMinN_, ↓gMin1_rl, ↓gMin1_ref, ↓gSum_rl, ↓gSum_ref, ↓dChain_, ↓sAug_, ↓gIndex_, ↓dVar_0, ↓dVar_1, ↓dVar_2, ↓dVar_3, ↓dVar_4, ↓dVar_5, ↓dVar_6, ↓dVar_7, ↓dVar_8, ↓dVar_9, ↓dVar_10, ↓dVar_11, ↓dVar_12, ↓dVar_13, ↓dVar_14, ↓dVar_15, ↓dVar_16, ↓dVar_17, ↓dVar_18, ↓dVar_19, ↓dVar_20, ↓dVar_21, ↓dVar_22, ↓dVar_23, ↓dVar_24, ↓dVar_25, ↓sz_0, ↓sz_1, ↓sz_2, ↓sz_3, ↓sz_4, ↓sz_5, ↓sz_6, ↓sz_7, ↓sz_8, ↓sz_9, ↓sz_10, ↓sz_11, ↓sz_12, ↓sz_13, ↓u_dNewT, ↓u_sPutT, ↓u_sSeq, ↓u_sNext, ↓u_sSet, ↓u_sSetN, ↓u_sAsg, ↓u_sIf, ↓u_sRet, ↓u_sRetN, ↓u_sDrop, ↓u_sPar, ↓u_sFor, ↓u_sBreak, ↓u_sCont, ↓u_dC, ↓u_d2, ↓u_d1, ↓u_dTup, ↓u_dNew, ↓u_aNil, ↓u_aCons, ↓u_nLst, ↓u_tAnd', ↓u_tOr', ↓u_tNot', ↓u_dIf, ↓u_gName', ↓u_dCall, ↓u_dB, ↓u_dLenN, ↓u_dTupN, ↓u_dM, ↓u_iNew, ↓u_nLc, ↓u_dN1, ↓u_dCut, ↓u_nCutN, ↓u_nCatNN, ↓u_d2N, ↓u_dNN, ↓u_tYes', ↓u_dS, List.set_cons_zero, List.set_cons_succ, dwipe, ite_true, ite_false, Bool.false_eq_true, Bool.true_eq_false, Bool.not_true, Bool.not_false, beq_self_eq_true, decide_eq_true_eq, Bool.not_eq_true', decide_eq_false_iff_not, mput_same, mput_put, dends, List.length_cons, List.length_nil, true_and, and_true, Nat.reduceAdd, Nat.reduceEqDiff, Int.reduceToNat, ↓x_tabLen, ↓x_fr0, ↓x_fr1, ↓x_kn0, ↓x_kn1, ↓x_map, ↓x_at0, ↓x_at1, ↓x_len, ↓x_row, ↓x_cut, ↓x_tup2, ↓x_tupfr, ↓x_isiT, ↓x_isiK, ↓x_isiF, ↓x_notN, ↓x_getT, ↓x_putT, ↓x_notNM]
        intro c2 hc2
        have ecut : cutD ((rs[k]).2.map D.int) (some (0 + (k : Int))) none = ((rs[k]).2.drop k).map D.int := by
          rw [cutD_drop (by omega) (by rw [hr.2.2.2.2.1]; omega), show (0 + (k : Int)).toNat = k by omega]
        rw [ecut]
        have hC1' : mput M1 c2 (.lst (((rs[k]).2.drop k).map D.int)) c1 = some (.lst ((List.replicate k (0 : Int)).map D.int)) := by rw [mput_ne (ne_of hC1 hc2)]; exact hC1
        have hW2 := hW1.new (o := .lst (((rs[k]).2.drop k).map D.int)) hc2
        have hT2 := hT1.new (o := .lst (((rs[k]).2.drop k).map D.int)) hc2
        simp only [hC1', mput_same, ↓bK_bl, ↓lstK_lst, ↓intK_int, ↓optK_some, ↓tBool_, ↓dAndV_, ↓dOrV_, ↓dNotV_, ↓gI_, ↓gI0_, ↓gAdd_int, ↓gAdd_str, ↓gAdd_tup, ↓gAdd_ref, ↓gNeg_, ↓gIx_tup, ↓gIx_rl, ↓gIx_ref, ↓gIx_str, ↓atK_0, ↓atK_1, ↓atK_2, ↓atK_3, ↓atK_4, ↓atK_5, ↓atK_6, ↓atK_7, ↓atK_last, ↓setK_0, ↓setK_1, ↓setK_2, ↓setK_3, ↓gLen_str, ↓gLen_tup, ↓gLen_rl, ↓gLen_ref, ↓gTupleOf_tup, ↓gTupleOf_rl, ↓gTupleOf_ref, ↓seqK_tup, ↓seqK_rl, ↓seqK_ref, ↓nListOf_, ↓isLst_ref, ↓gAppend_, ↓gInsert_, ↓isStr_str, ↓strK_str, ↓gStrCount_, ↓dJoinN_, ↓gPopAt_, ↓nRange1_, ↓gPop_, ↓refK_ref, ↓dExtN_, ↓gExt_, ↓gSetIx_, ↓itK_some, ↓iRow_, ↓rowIt_tup, ↓rowIt_rl, ↓rowIt_str, ↓iRng1_, ↓iRng2_, ↓iZip_, ↓iEnum_, ↓gNil_, ↓gCons_, ↓gTup_, ↓gTup_ref, ↓gAbs_, ↓gMax2_, ↓gMin2_, ↓gInt_int, ↓gInt_bl, ↓gLe_int, ↓gIsN_non, ↓gIsN_tup, ↓gIsN_int, ↓gIsN_str, ↓gIsN_ref, ↓gIsN_bl, ↓isi_bool_bool, ↓isi_bool_int, ↓isi_int_int, ↓isi_int_bool, ↓isi_tuple_tup, ↓isi_int_tup, ↓isi_bool_tup, ↓isi_str_str, ↓isi_tuple_int, ↓isi_tuple_non, ↓gEq_int, ↓gNe_int, ↓gEq_bl, ↓gNe_bl, ↓gEq_str, ↓gNe_str, ↓gEq_int_non, ↓oNone_, ↓oSome_, ↓gCut_str, ↓gCut_tup, ↓gCut_ref, ↓gCut_rl, ↓rowK_rl, ↓rowK_ref, ↓nCut_, ↓nSorted_, ↓gSorted1_, ↓nRev_, ↓nCatEN_, ↓nRep_, ↓tupK_tup, ↓keysD_two, ↓dtK_dT, ↓gGetT_, ↓gPutT_, ↓nKeysT_, ↓gIsB_, ↓nRepE_, ↓dIxN_, ↓gSumN_, ↓gAllN_, ↓gAnyN_, ↓gAnyI_, ↓gMaxN_, ↓gMax1_rl, ↓gMax1_ref, ↓gMinN_, ↓gMin1_rl, ↓gMin1_ref, ↓gSum_rl, ↓gSum_ref, ↓dChain_, ↓sAug_, ↓gIndex_, ↓dVar_0, ↓dVar_1, ↓dVar_2, ↓dVar_3, ↓dVar_4, ↓dVar_5, ↓dVar_6, ↓dVar_7, ↓dVar_8, ↓dVar_9, ↓dVar_10, ↓dVar_11, ↓dVar_12, ↓dVar_13, ↓dVar_14, ↓dVar_15, ↓dVar_16, ↓dVar_17, ↓dVar_18, ↓dVar_19, ↓dVar_20, ↓dVar_21, ↓dVar_22, ↓dVar_23, ↓dVar_24, ↓dVar_25, ↓sz_0, ↓sz_1, ↓sz_2, ↓sz_3, ↓sz_4, ↓sz_5, ↓sz_6, ↓sz_7, ↓sz_8, ↓sz_9, ↓sz_10, ↓sz_11, ↓sz_12, ↓sz_13, ↓u_dNewT, ↓u_sPutT, ↓u_sSeq, ↓u_sNext, ↓u_sSet, ↓u_sSetN, ↓u_sAsg, ↓u_sIf, ↓u_sRet, ↓u_sRetN, ↓u_sDrop, ↓u_sPar, ↓u_sFor, ↓u_sBreak, ↓u_sCont, ↓u_dC, ↓u_d2, ↓u_d1, ↓u_dTup, ↓u_dNew, ↓u_aNil, ↓u_aCons, ↓u_nLst, ↓u_tAnd', ↓u_tOr', ↓u_tNot', ↓u_dIf, ↓u_gName', ↓u_dCall, ↓u_dB, ↓u_dLenN, ↓u_dTupN, ↓u_dM, ↓u_iNew, ↓u_nLc, ↓u_dN1, ↓u_dCut, ↓u_nCutN, ↓u_nCatNN, ↓u_d2N, ↓u_dNN, ↓u_tYes', ↓u_dS, List.set_cons_zero, List.set_cons_succ, dwipe, ite_true, ite_false, Bool.false_eq_true, Bool.true_eq_false, Bool.not_true, Bool.not_false, beq_self_eq_true, decide_eq_true_eq, Bool.not_eq_true', decide_eq_false_iff_not, mput_same, mput_put, dends, List.length_cons, List.length_nil, true_and, and_true, Nat.reduceAdd, Nat.reduceEqDiff, Int.reduceToNat, ↓x_tabLen, ↓x_fr0, ↓x_fr1, ↓x_kn0, ↓x_kn1, ↓x_map, ↓x_at0, ↓x_at1, ↓x_len, ↓x_row, ↓x_cut, ↓x_tup2, ↓x_tupfr, ↓x_isiT, ↓x_isiK, ↓x_isiF, ↓x_notN, ↓x_getT, ↓x_putT, ↓x_notNM]
        rw [← List.map_append]
        have hrl := hr.2.2.2.2.1
        refine ⟨by simp; omega, fun c hc => ?_⟩
        have cf := hW2.fresh hc
        have ca := hT2.na hc
        have cb := hT2.nb hc
        have hW3 := hW2.new (o := .lst ((List.replicate k (0 : Int) ++ (rs[k]).2.drop k).map D.int)) hc
        have hT3 := hT2.new (o := .lst ((List.replicate k (0 : Int) ++ (rs[k]).2.drop k).map D.int)) hc
        have hC : mput (mput M1 c2 (.lst (((rs[k]).2.drop k).map D.int))) c (.lst ((List.replicate k (0 : Int) ++ (rs[k]).2.drop k).map D.int)) c = some (.lst ((List.replicate k (0 : Int) ++ (rs[k]).2.drop k).map D.int)) := mput_same
        generalize mput (mput M1 c2 (.lst (((rs[k]).2.drop k).map D.int))) c (.lst ((List.replicate k (0 : Int) ++ (rs[k]).2.drop k).map D.int)) = M4 at hW3 hT3 hC ⊢
        simp only [hW3.rwL, ↓bK_bl, ↓lstK_lst, ↓intK_int, ↓optK_some, ↓tBool_, ↓dAndV_, ↓dOrV_, ↓dNotV_, ↓gI_, ↓gI0_, ↓gAdd_int, ↓gAdd_str, ↓gAdd_tup, ↓gAdd_ref, ↓gNeg_, ↓gIx_tup, ↓gIx_rl, ↓gIx_ref, ↓gIx_str, ↓atK_0, ↓atK_1, ↓atK_2, ↓atK_3, ↓atK_4, ↓atK_5, ↓atK_6, ↓atK_7, ↓atK_last, ↓setK_0, ↓setK_1, ↓setK_2, ↓setK_3, ↓gLen_str, ↓gLen_tup, ↓gLen_rl, ↓gLen_ref, ↓gTupleOf_tup, ↓gTupleOf_rl, ↓gTupleOf_ref, ↓seqK_tup, ↓seqK_rl, ↓seqK_ref, ↓nListOf_, ↓isLst_ref, ↓gAppend_, ↓gInsert_, ↓isStr_str, ↓strK_str, ↓gStrCount_, ↓dJoinN_, ↓gPopAt_, ↓nRange1_, ↓gPop_, ↓refK_ref, ↓dExtN_, ↓gExt_, ↓gSetIx_, ↓itK_some, ↓iRow_, ↓rowIt_tup, ↓rowIt_rl, ↓rowIt_str, ↓iRng1_, ↓iRng2_, ↓iZip_, ↓iEnum_, ↓gNil_, ↓gCons_, ↓gTup_, ↓gTup_ref, ↓gAbs_, ↓gMax2_, ↓gMin2_, ↓gInt_int, ↓gInt_bl, ↓gLe_int, ↓gIsN_non, ↓gIsN_tup, ↓gIsN_int, ↓gIsN_str, ↓gIsN_ref, ↓gIsN_bl, ↓isi_bool_bool, ↓isi_bool_int, ↓isi_int_int, ↓isi_int_bool, ↓isi_tuple_tup, ↓isi_int_tup, ↓isi_bool_tup, ↓isi_str_str, ↓isi_tuple_int, ↓isi_tuple_non, ↓gEq_int, ↓gNe_int, ↓gEq_bl, ↓gNe_bl, ↓gEq_str, ↓gNe_str, ↓gEq_int_non, ↓oNone_, ↓oSome_, ↓gCut_str, ↓gCut_tup, ↓gCut_ref, ↓gCut_rl, ↓rowK_rl, ↓rowK_ref, ↓nCut_, ↓nSorted_, ↓gSorted1_, ↓nRev_, ↓nCatEN_, ↓nRep_, ↓tupK_tup, ↓keysD_two, ↓dtK_dT, ↓gGetT_, ↓gPutT_, ↓nKeysT_, ↓gIsB_, ↓nRepE_, ↓dIxN_, ↓gSumN_, ↓gAllN_, ↓gAnyN_, ↓gAnyI_, ↓gMaxN_, ↓gMax1_rl, ↓gMax1_ref, ↓gMinN_, ↓gMin1_rl, ↓gMin1_ref, ↓gSum_rl, ↓gSum_ref, ↓dChain_, ↓sAug_, ↓gIndex_, ↓dVar_0, ↓dVar_1, ↓dVar_2, ↓dVar_3, ↓dVar_4, ↓dVar_5, ↓dVar_6, ↓dVar_7, ↓dVar_8, ↓dVar_9, ↓dVar_10, ↓dVar_11, ↓dVar_12, ↓dVar_13, ↓dVar_14, ↓dVar_15, ↓dVar_16, ↓dVar_17, ↓dVar_18, ↓dVar_19, ↓dVar_20, ↓dVar_21, ↓dVar_22, ↓dVar_23, ↓dVar_24, ↓dVar_25, ↓sz_0, ↓sz_1, ↓sz_2, ↓sz_3, ↓sz_4, ↓sz_5, ↓sz_6, ↓sz_7, ↓sz_8, ↓sz_9, ↓sz_10, ↓sz_11, ↓sz_12, ↓sz_13, ↓u_dNewT, ↓u_sPutT, ↓u_sSeq, ↓u_sNext, ↓u_sSet, ↓u_sSetN, ↓u_sAsg, ↓u_sIf, ↓u_sRet, ↓u_sRetN, ↓u_sDrop, ↓u_sPar, ↓u_sFor, ↓u_sBreak, ↓u_sCont, ↓u_dC, ↓u_d2, ↓u_d1, ↓u_dTup, ↓u_dNew, ↓u_aNil, ↓u_aCons, ↓u_nLst, ↓u_tAnd', ↓u_tOr', ↓u_tNot', ↓u_dIf, ↓u_gName', ↓u_dCall, ↓u_dB, ↓u_dLenN, ↓u_dTupN, ↓u_dM, ↓u_iNew, ↓u_nLc, ↓u_dN1, ↓u_dCut, ↓u_nCutN, ↓u_nCatNN, ↓u_d2N, ↓u_dNN, ↓u_tYes', ↓u_dS, List.set_cons_zero, List.set_cons_succ, dwipe, ite_true, ite_false, Bool.false_eq_true, Bool.true_eq_false, Bool.not_true, Bool.not_false, beq_self_eq_true, decide_eq_true_eq, Bool.not_eq_true', decide_eq_false_iff_not, mput_same, mput_put, dends, List.length_cons, List.length_nil, true_and, and_true, Nat.reduceAdd, Nat.reduceEqDiff, Int.reduceToNat, ↓x_tabLen, ↓x_fr0, ↓x_fr1, ↓x_kn0, ↓x_kn1, ↓x_map, ↓x_at0, ↓x_at1, ↓x_len, ↓x_row, ↓x_cut, ↓x_tup2, ↓x_tupfr, ↓x_isiT, ↓x_isiK, ↓x_isiF, ↓x_notN, ↓x_getT, ↓x_putT, ↓x_notNM]
        refine set_ rs kl c (List.replicate k (0 : Int) ++ (rs[k]).2.drop k) _ ?_
        refine way2 _ _ _ (hW3.set k hC ca cb cf.1 cf.2 ⟨by simp; omega, fun z hz => ?_⟩) (hT3.put hW.rwa.1 hW.rwa.2)
        rcases List.mem_append.mp hz with h | h
        · have := List.eq_of_mem_replicate h
          omega
        · exact hr.2.2.2.2.2 z (List.mem_of_mem_drop h)
      · exact way2 rs _ M hW hT
  -- the rows at first
  have fromR : ∀ (g : Addr) (mn : List Int) (M : Mu), M g = some (.lst (mn.map D.int)) → g ≠ a → g ≠ b → 1 ≤ mn.length → mn.length ≤ 4 → (∀ z ∈ mn, 0 ≤ z ∧ z ≤ 9) → TDeck (N + 2) M a b → t_law_table_s2 (dends R) [some (.ref a), some (.int most), some (.int n), some (.ref g), none, none, none, none, none, none, none] M := by
    intro g mn M hg ga gb l1 l2 hm hT
    simp only [t_law_table_s2, ↓bK_bl, ↓lstK_lst, ↓intK_int, ↓optK_some, ↓tBool_, ↓dAndV_, ↓dOrV_, ↓dNotV_, ↓gI_, ↓gI0_, ↓gAdd_int, ↓gAdd_str, ↓gAdd_tup, ↓gAdd_ref, ↓gNeg_, ↓gIx_tup, ↓gIx_rl, ↓gIx_ref, ↓gIx_str, ↓atK_0, ↓atK_1, ↓atK_2, ↓atK_3, ↓atK_4, ↓atK_5, ↓atK_6, ↓atK_7, ↓atK_last, ↓setK_0, ↓setK_1, ↓setK_2, ↓setK_3, ↓gLen_str, ↓gLen_tup, ↓gLen_rl, ↓gLen_ref, ↓gTupleOf_tup, ↓gTupleOf_rl, ↓gTupleOf_ref, ↓seqK_tup, ↓seqK_rl, ↓seqK_ref, ↓nListOf_, ↓isLst_ref, ↓gAppend_, ↓gInsert_, ↓isStr_str, ↓strK_str, ↓gStrCount_, ↓dJoinN_, ↓gPopAt_, ↓nRange1_, ↓gPop_, ↓refK_ref, ↓dExtN_, ↓gExt_, ↓gSetIx_, ↓itK_some, ↓iRow_, ↓rowIt_tup, ↓rowIt_rl, ↓rowIt_str, ↓iRng1_, ↓iRng2_, ↓iZip_, ↓iEnum_, ↓gNil_, ↓gCons_, ↓gTup_, ↓gTup_ref, ↓gAbs_, ↓gMax2_, ↓gMin2_, ↓gInt_int, ↓gInt_bl, ↓gLe_int, ↓gIsN_non, ↓gIsN_tup, ↓gIsN_int, ↓gIsN_str, ↓gIsN_ref, ↓gIsN_bl, ↓isi_bool_bool, ↓isi_bool_int, ↓isi_int_int, ↓isi_int_bool, ↓isi_tuple_tup, ↓isi_int_tup, ↓isi_bool_tup, ↓isi_str_str, ↓isi_tuple_int, ↓isi_tuple_non, ↓gEq_int, ↓gNe_int, ↓gEq_bl, ↓gNe_bl, ↓gEq_str, ↓gNe_str, ↓gEq_int_non, ↓oNone_, ↓oSome_, ↓gCut_str, ↓gCut_tup, ↓gCut_ref, ↓gCut_rl, ↓rowK_rl, ↓rowK_ref, ↓nCut_, ↓nSorted_, ↓gSorted1_, ↓nRev_, ↓nCatEN_, ↓nRep_, ↓tupK_tup, ↓keysD_two, ↓dtK_dT, ↓gGetT_, ↓gPutT_, ↓nKeysT_, ↓gIsB_, ↓nRepE_, ↓dIxN_, ↓gSumN_, ↓gAllN_, ↓gAnyN_, ↓gAnyI_, ↓gMaxN_, ↓gMax1_rl, ↓gMax1_ref, ↓gMinN_, ↓gMin1_rl, ↓gMin1_ref, ↓gSum_rl, ↓gSum_ref, ↓dChain_, ↓sAug_, ↓gIndex_, ↓dVar_0, ↓dVar_1, ↓dVar_2, ↓dVar_3, ↓dVar_4, ↓dVar_5, ↓dVar_6, ↓dVar_7, ↓dVar_8, ↓dVar_9, ↓dVar_10, ↓dVar_11, ↓dVar_12, ↓dVar_13, ↓dVar_14, ↓dVar_15, ↓dVar_16, ↓dVar_17, ↓dVar_18, ↓dVar_19, ↓dVar_20, ↓dVar_21, ↓dVar_22, ↓dVar_23, ↓dVar_24, ↓dVar_25, ↓sz_0, ↓sz_1, ↓sz_2, ↓sz_3, ↓sz_4, ↓sz_5, ↓sz_6, ↓sz_7, ↓sz_8, ↓sz_9, ↓sz_10, ↓sz_11, ↓sz_12, ↓sz_13, ↓u_dNewT, ↓u_sPutT, ↓u_sSeq, ↓u_sNext, ↓u_sSet, ↓u_sSetN, ↓u_sAsg, ↓u_sIf, ↓u_sRet, ↓u_sRetN, ↓u_sDrop, ↓u_sPar, ↓u_sFor, ↓u_sBreak, ↓u_sCont, ↓u_dC, ↓u_d2, ↓u_d1, ↓u_dTup, ↓u_dNew, ↓u_aNil, ↓u_aCons, ↓u_nLst, ↓u_tAnd', ↓u_tOr', ↓u_tNot', ↓u_dIf, ↓u_gName', ↓u_dCall, ↓u_dB, ↓u_dLenN, ↓u_dTupN, ↓u_dM, ↓u_iNew, ↓u_nLc, ↓u_dN1, ↓u_dCut, ↓u_nCutN, ↓u_nCatNN, ↓u_d2N, ↓u_dNN, ↓u_tYes', ↓u_dS, List.set_cons_zero, List.set_cons_succ, dwipe, ite_true, ite_false, Bool.false_eq_true, Bool.true_eq_false, Bool.not_true, Bool.not_false, beq_self_eq_true, decide_eq_true_eq, Bool.not_eq_true', decide_eq_false_iff_not, mput_same, mput_put, dends, List.length_cons, List.length_nil, true_and, and_true, Nat.reduceAdd, Nat.reduceEqDiff, Int.reduceToNat, ↓x_tabLen, ↓x_fr0, ↓x_fr1, ↓x_kn0, ↓x_kn1, ↓x_map, ↓x_at0, ↓x_at1, ↓x_len, ↓x_row, ↓x_cut, ↓x_tup2, ↓x_tupfr, ↓x_isiT, ↓x_isiK, ↓x_isiF, ↓x_notN, ↓x_getT, ↓x_putT, ↓x_notNM]
    refine ⟨by omega, ?_⟩
    rw [show ((n : Nat) : Int).toNat = n by omega, rng_map]
    refine lc_ind _ (fun xs acc M => ∃ rs : List (Addr × List Int), acc = rs.map (fun p => D.ref p.1) ∧ rs.length + xs.length = n ∧ (rs.map (·.1)).Nodup ∧ (∀ p ∈ rs, M p.1 = some (.lst (p.2.map D.int)) ∧ p.1 ≠ a ∧ p.1 ≠ b ∧ RowOk n p.2) ∧ M g = some (.lst (mn.map D.int)) ∧ TDeck (N + 2 + 12 * rs.length) M a b) ?_ ?_ _ _ _ ⟨[], rfl, by simp, by simp, by simp, hg, hT.mono (by simp)⟩
    · rintro acc M1 ⟨rs, rfl, h1, h2, h3, h4, h5⟩
      refine ⟨trivial, fun rw_ hrw => ?_⟩
      simp only [List.length_nil, Nat.add_zero] at h1
      have hT1 := h5.new (o := .lst (rs.map fun p => D.ref p.1)) hrw
      have hW : Rws a b rw_ n rs (mput M1 rw_ (.lst (rs.map fun p => D.ref p.1))) := by
        refine ⟨h1, h2, fun p hp => ?_, mput_same, h5.na hrw, h5.nb hrw⟩
        have := h3 p hp
        have ne : p.1 ≠ rw_ := ne_of this.1 hrw
        exact ⟨by rw [mput_ne ne]; exact this.1, this.2.1, this.2.2.1, ne, this.2.2.2⟩
      generalize mput M1 rw_ (.lst (rs.map fun p => D.ref p.1)) = M2 at hW hT1 ⊢
      simp only [t_law_table_s3, ↓bK_bl, ↓lstK_lst, ↓intK_int, ↓optK_some, ↓tBool_, ↓dAndV_, ↓dOrV_, ↓dNotV_, ↓gI_, ↓gI0_, ↓gAdd_int, ↓gAdd_str, ↓gAdd_tup, ↓gAdd_ref, ↓gNeg_, ↓gIx_tup, ↓gIx_rl, ↓gIx_ref, ↓gIx_str, ↓atK_0, ↓atK_1, ↓atK_2, ↓atK_3, ↓atK_4, ↓atK_5, ↓atK_6, ↓atK_7, ↓atK_last, ↓setK_0, ↓setK_1, ↓setK_2, ↓setK_3, ↓gLen_str, ↓gLen_tup, ↓gLen_rl, ↓gLen_ref, ↓gTupleOf_tup, ↓gTupleOf_rl, ↓gTupleOf_ref, ↓seqK_tup, ↓seqK_rl, ↓seqK_ref, ↓nListOf_, ↓isLst_ref, ↓gAppend_, ↓gInsert_, ↓isStr_str, ↓strK_str, ↓gStrCount_, ↓dJoinN_, ↓gPopAt_, ↓nRange1_, ↓gPop_, ↓refK_ref, ↓dExtN_, ↓gExt_, ↓gSetIx_, ↓itK_some, ↓iRow_, ↓rowIt_tup, ↓rowIt_rl, ↓rowIt_str, ↓iRng1_, ↓iRng2_, ↓iZip_, ↓iEnum_, ↓gNil_, ↓gCons_, ↓gTup_, ↓gTup_ref, ↓gAbs_, ↓gMax2_, ↓gMin2_, ↓gInt_int, ↓gInt_bl, ↓gLe_int, ↓gIsN_non, ↓gIsN_tup, ↓gIsN_int, ↓gIsN_str, ↓gIsN_ref, ↓gIsN_bl, ↓isi_bool_bool, ↓isi_bool_int, ↓isi_int_int, ↓isi_int_bool, ↓isi_tuple_tup, ↓isi_int_tup, ↓isi_bool_tup, ↓isi_str_str, ↓isi_tuple_int, ↓isi_tuple_non, ↓gEq_int, ↓gNe_int, ↓gEq_bl, ↓gNe_bl, ↓gEq_str, ↓gNe_str, ↓gEq_int_non, ↓oNone_, ↓oSome_, ↓gCut_str, ↓gCut_tup, ↓gCut_ref, ↓gCut_rl, ↓rowK_rl, ↓rowK_ref, ↓nCut_, ↓nSorted_, ↓gSorted1_, ↓nRev_, ↓nCatEN_, ↓nRep_, ↓tupK_tup, ↓keysD_two, ↓dtK_dT, ↓gGetT_, ↓gPutT_, ↓nKeysT_, ↓gIsB_, ↓nRepE_, ↓dIxN_, ↓gSumN_, ↓gAllN_, ↓gAnyN_, ↓gAnyI_, ↓gMaxN_, ↓gMax1_rl, ↓gMax1_ref, ↓gMinN_, ↓gMin1_rl, ↓gMin1_ref, ↓gSum_rl, ↓gSum_ref, ↓dChain_, ↓sAug_, ↓gIndex_, ↓dVar_0, ↓dVar_1, ↓dVar_2, ↓dVar_3, ↓dVar_4, ↓dVar_5, ↓dVar_6, ↓dVar_7, ↓dVar_8, ↓dVar_9, ↓dVar_10, ↓dVar_11, ↓dVar_12, ↓dVar_13, ↓dVar_14, ↓dVar_15, ↓dVar_16, ↓dVar_17, ↓dVar_18, ↓dVar_19, ↓dVar_20, ↓dVar_21, ↓dVar_22, ↓dVar_23, ↓dVar_24, ↓dVar_25, ↓sz_0, ↓sz_1, ↓sz_2, ↓sz_3, ↓sz_4, ↓sz_5, ↓sz_6, ↓sz_7, ↓sz_8, ↓sz_9, ↓sz_10, ↓sz_11, ↓sz_12, ↓sz_13, ↓u_dNewT, ↓u_sPutT, ↓u_sSeq, ↓u_sNext, ↓u_sSet, ↓u_sSetN, ↓u_sAsg, ↓u_sIf, ↓u_sRet, ↓u_sRetN, ↓u_sDrop, ↓u_sPar, ↓u_sFor, ↓u_sBreak, ↓u_sCont, ↓u_dC, ↓u_d2, ↓u_d1, ↓u_dTup, ↓u_dNew, ↓u_aNil, ↓u_aCons, ↓u_nLst, ↓u_tAnd', ↓u_tOr', ↓u_tNot', ↓u_dIf, ↓u_gName', ↓u_dCall, ↓u_dB, ↓u_dLenN, ↓u_dTupN, ↓u_dM, ↓u_iNew, ↓u_nLc, ↓u_dN1, ↓u_dCut, ↓u_nCutN, ↓u_nCatNN, ↓u_d2N, ↓u_dNN, ↓u_tYes', ↓u_dS, List.set_cons_zero, List.set_cons_succ, dwipe, ite_true, ite_false, Bool.false_eq_true, Bool.true_eq_false, Bool.not_true, Bool.not_false, beq_self_eq_true, decide_eq_true_eq, Bool.not_eq_true', decide_eq_false_iff_not, mput_same, mput_put, dends, List.length_cons, List.length_nil, true_and, and_true, Nat.reduceAdd, Nat.reduceEqDiff, Int.reduceToNat, ↓x_tabLen, ↓x_fr0, ↓x_fr1, ↓x_kn0, ↓x_kn1, ↓x_map, ↓x_at0, ↓x_at1, ↓x_len, ↓x_row, ↓x_cut, ↓x_tup2, ↓x_tupfr, ↓x_isiT, ↓x_isiK, ↓x_isiF, ↓x_notN, ↓x_getT, ↓x_putT, ↓x_notNM]
      refine ⟨a, b, 5, _, rfl, hT1, by omega, by omega, by omega, fun v M3 _ _ hT3 hE => ?_⟩
      exact fromW rs rw_ g _ _ _ v M3 (hW.eq2 hE) (hT3.mono (by omega))
    · rintro x xs acc M1 W hW3 ⟨rs, rfl, h1, h2, h3, h4, h5⟩
      refine ⟨trivial, ?_⟩
      simp only [List.length_cons] at h1
      try simp only [↓bK_bl, ↓lstK_lst, ↓intK_int, ↓optK_some, ↓tBool_, ↓dAndV_, ↓dOrV_, ↓dNotV_, ↓gI_, ↓gI0_, ↓gAdd_int, ↓gAdd_str, ↓gAdd_tup, ↓gAdd_ref, ↓gNeg_, ↓gIx_tup, ↓gIx_rl, ↓gIx_ref, ↓gIx_str, ↓atK_0, ↓atK_1, ↓atK_2, ↓atK_3, ↓atK_4, ↓atK_5, ↓atK_6, ↓atK_7, ↓atK_last, ↓setK_0, ↓setK_1, ↓setK_2, ↓setK_3, ↓gLen_str, ↓gLen_tup, ↓gLen_rl, ↓gLen_ref, ↓gTupleOf_tup, ↓gTupleOf_rl, ↓gTupleOf_ref, ↓seqK_tup, ↓seqK_rl, ↓seqK_ref, ↓nListOf_, ↓isLst_ref, ↓gAppend_, ↓gInsert_, ↓isStr_str, ↓strK_str, ↓gStrCount_, ↓dJoinN_, ↓gPopAt_, ↓nRange1_, ↓gPop_, ↓refK_ref, ↓dExtN_, ↓gExt_, ↓gSetIx_, ↓itK_some, ↓iRow_, ↓rowIt_tup, ↓rowIt_rl, ↓rowIt_str, ↓iRng1_, ↓iRng2_, ↓iZip_, ↓iEnum_, ↓gNil_, ↓gCons_, ↓gTup_, ↓gTup_ref, ↓gAbs_, ↓gMax2_, ↓gMin2_, ↓gInt_int, ↓gInt_bl, ↓gLe_int, ↓gIsN_non, ↓gIsN_tup, ↓gIsN_int, ↓gIsN_str, ↓gIsN_ref, ↓gIsN_bl, ↓isi_bool_bool, ↓isi_bool_int, ↓isi_int_int, ↓isi_int_bool, ↓isi_tuple_tup, ↓isi_int_tup, ↓isi_bool_tup, ↓isi_str_str, ↓isi_tuple_int, ↓isi_tuple_non, ↓gEq_int, ↓gNe_int, ↓gEq_bl, ↓gNe_bl, ↓gEq_str, ↓gNe_str, ↓gEq_int_non, ↓oNone_, ↓oSome_, ↓gCut_str, ↓gCut_tup, ↓gCut_ref, ↓gCut_rl, ↓rowK_rl, ↓rowK_ref, ↓nCut_, ↓nSorted_, ↓gSorted1_, ↓nRev_, ↓nCatEN_, ↓nRep_, ↓tupK_tup, ↓keysD_two, ↓dtK_dT, ↓gGetT_, ↓gPutT_, ↓nKeysT_, ↓gIsB_, ↓nRepE_, ↓dIxN_, ↓gSumN_, ↓gAllN_, ↓gAnyN_, ↓gAnyI_, ↓gMaxN_, ↓gMax1_rl, ↓gMax1_ref, ↓gMinN_, ↓gMin1_rl, ↓gMin1_ref, ↓gSum_rl, ↓gSum_ref, ↓dChain_, ↓sAug_, ↓gIndex_, ↓dVar_0, ↓dVar_1, ↓dVar_2, ↓dVar_3, ↓dVar_4, ↓dVar_5, ↓dVar_6, ↓dVar_7, ↓dVar_8, ↓dVar_9, ↓dVar_10, ↓dVar_11, ↓dVar_12, ↓dVar_13, ↓dVar_14, ↓dVar_15, ↓dVar_16, ↓dVar_17, ↓dVar_18, ↓dVar_19, ↓dVar_20, ↓dVar_21, ↓dVar_22, ↓dVar_23, ↓dVar_24, ↓dVar_25, ↓sz_0, ↓sz_1, ↓sz_2, ↓sz_3, ↓sz_4, ↓sz_5, ↓sz_6, ↓sz_7, ↓sz_8, ↓sz_9, ↓sz_10, ↓sz_11, ↓sz_12, ↓sz_13, ↓u_dNewT, ↓u_sPutT, ↓u_sSeq, ↓u_sNext, ↓u_sSet, ↓u_sSetN, ↓u_sAsg, ↓u_sIf, ↓u_sRet, ↓u_sRetN, ↓u_sDrop, ↓u_sPar, ↓u_sFor, ↓u_sBreak, ↓u_sCont, ↓u_dC, ↓u_d2, ↓u_d1, ↓u_dTup, ↓u_dNew, ↓u_aNil, ↓u_aCons, ↓u_nLst, ↓u_tAnd', ↓u_tOr', ↓u_tNot', ↓u_dIf, ↓u_gName', ↓u_dCall, ↓u_dB, ↓u_dLenN, ↓u_dTupN, ↓u_dM, ↓u_iNew, ↓u_nLc, ↓u_dN1, ↓u_dCut, ↓u_nCutN, ↓u_nCatNN, ↓u_d2N, ↓u_dNN, ↓u_tYes', ↓u_dS, List.set_cons_zero, List.set_cons_succ, dwipe, ite_true, ite_false, Bool.false_eq_true, Bool.true_eq_false, Bool.not_true, Bool.not_false, beq_self_eq_true, decide_eq_true_eq, Bool.not_eq_true', decide_eq_false_iff_not, mput_same, mput_put, dends, List.length_cons, List.length_nil, true_and, and_true, Nat.reduceAdd, Nat.reduceEqDiff, Int.reduceToNat, ↓x_tabLen, ↓x_fr0, ↓x_fr1, ↓x_kn0, ↓x_kn1, ↓x_map, ↓x_at0, ↓x_at1, ↓x_len, ↓x_row, ↓x_cut, ↓x_tup2, ↓x_tupfr, ↓x_isiT, ↓x_isiK, ↓x_isiF, ↓x_notN, ↓x_getT, ↓x_putT, ↓x_notNM]
      refine ⟨by omega, ?_⟩
      rw [show ((n : Nat) : Int).toNat = n by omega, rng_map]
      refine lc_ind _ (fun ys acc2 M => ∃ us : List Int, acc2 = us.map D.int ∧ us.length + ys.length = n ∧ (∀ z ∈ us, 0 ≤ z ∧ z ≤ 9) ∧ (∀ p ∈ rs, M p.1 = some (.lst (p.2.map D.int)) ∧ p.1 ≠ a ∧ p.1 ≠ b ∧ RowOk n p.2) ∧ M g = some (.lst (mn.map D.int)) ∧ TDeck (N + 2 + 12 * rs.length + us.length) M a b) ?_ ?_ _ _ _ ⟨[], rfl, by simp, by simp, h3, h4, h5.mono (by simp)⟩
      · rintro acc2 M2 ⟨us, rfl, k1, k2, k3, k4, k5⟩
        refine ⟨trivial, fun c hc => ?_⟩
        simp only [List.length_nil, Nat.add_zero] at k1
        refine ⟨by rw [List.length_map]; omega, hW3 _ _ ⟨rs ++ [(c, us)], by simp, by simp; omega, ?_, ?_, ?_, ?_⟩⟩
        · rw [List.map_append, List.nodup_append]
          refine ⟨h2, by simp, fun y hy z hz => ?_⟩
          obtain ⟨p, hp, rfl⟩ := List.mem_map.mp hy
          simp at hz
          subst hz
          exact ne_of (k3 p hp).1 hc
        · intro p hp
          rcases List.mem_append.mp hp with h | h
          · have := k3 p h
            exact ⟨by rw [mput_ne (ne_of this.1 hc)]; exact this.1, this.2⟩
          · simp at h
            subst h
            exact ⟨mput_same, k5.na hc, k5.nb hc, k1, k2⟩
        · rw [mput_ne (ne_of k4 hc)]
          exact k4
        · exact (k5.new hc).mono (by simp; omega)
      · rintro y ys acc2 M2 W2 hW4 ⟨us, rfl, k1, k2, k3, k4, k5⟩
        refine ⟨trivial, ?_⟩
        simp only [List.length_cons] at k1
        simp only [k4, ↓bK_bl, ↓lstK_lst, ↓intK_int, ↓optK_some, ↓tBool_, ↓dAndV_, ↓dOrV_, ↓dNotV_, ↓gI_, ↓gI0_, ↓gAdd_int, ↓gAdd_str, ↓gAdd_tup, ↓gAdd_ref, ↓gNeg_, ↓gIx_tup, ↓gIx_rl, ↓gIx_ref, ↓gIx_str, ↓atK_0, ↓atK_1, ↓atK_2, ↓atK_3, ↓atK_4, ↓atK_5, ↓atK_6, ↓atK_7, ↓atK_last, ↓setK_0, ↓setK_1, ↓setK_2, ↓setK_3, ↓gLen_str, ↓gLen_tup, ↓gLen_rl, ↓gLen_ref, ↓gTupleOf_tup, ↓gTupleOf_rl, ↓gTupleOf_ref, ↓seqK_tup, ↓seqK_rl, ↓seqK_ref, ↓nListOf_, ↓isLst_ref, ↓gAppend_, ↓gInsert_, ↓isStr_str, ↓strK_str, ↓gStrCount_, ↓dJoinN_, ↓gPopAt_, ↓nRange1_, ↓gPop_, ↓refK_ref, ↓dExtN_, ↓gExt_, ↓gSetIx_, ↓itK_some, ↓iRow_, ↓rowIt_tup, ↓rowIt_rl, ↓rowIt_str, ↓iRng1_, ↓iRng2_, ↓iZip_, ↓iEnum_, ↓gNil_, ↓gCons_, ↓gTup_, ↓gTup_ref, ↓gAbs_, ↓gMax2_, ↓gMin2_, ↓gInt_int, ↓gInt_bl, ↓gLe_int, ↓gIsN_non, ↓gIsN_tup, ↓gIsN_int, ↓gIsN_str, ↓gIsN_ref, ↓gIsN_bl, ↓isi_bool_bool, ↓isi_bool_int, ↓isi_int_int, ↓isi_int_bool, ↓isi_tuple_tup, ↓isi_int_tup, ↓isi_bool_tup, ↓isi_str_str, ↓isi_tuple_int, ↓isi_tuple_non, ↓gEq_int, ↓gNe_int, ↓gEq_bl, ↓gNe_bl, ↓gEq_str, ↓gNe_str, ↓gEq_int_non, ↓oNone_, ↓oSome_, ↓gCut_str, ↓gCut_tup, ↓gCut_ref, ↓gCut_rl, ↓rowK_rl, ↓rowK_ref, ↓nCut_, ↓nSorted_, ↓gSorted1_, ↓nRev_, ↓nCatEN_, ↓nRep_, ↓tupK_tup, ↓keysD_two, ↓dtK_dT, ↓gGetT_, ↓gPutT_, ↓nKeysT_, ↓gIsB_, ↓nRepE_, ↓dIxN_, ↓gSumN_, ↓gAllN_, ↓gAnyN_, ↓gAnyI_, ↓gMaxN_, ↓gMax1_rl, ↓gMax1_ref, ↓gMinN_, ↓gMin1_rl, ↓gMin1_ref, ↓gSum_rl, ↓gSum_ref, ↓dChain_, ↓sAug_, ↓gIndex_, ↓dVar_0, ↓dVar_1, ↓dVar_2, ↓dVar_3, ↓dVar_4, ↓dVar_5, ↓dVar_6, ↓dVar_7, ↓dVar_8, ↓dVar_9, ↓dVar_10, ↓dVar_11, ↓dVar_12, ↓dVar_13, ↓dVar_14, ↓dVar_15, ↓dVar_16, ↓dVar_17, ↓dVar_18, ↓dVar_19, ↓dVar_20, ↓dVar_21, ↓dVar_22, ↓dVar_23, ↓dVar_24, ↓dVar_25, ↓sz_0, ↓sz_1, ↓sz_2, ↓sz_3, ↓sz_4, ↓sz_5, ↓sz_6, ↓sz_7, ↓sz_8, ↓sz_9, ↓sz_10, ↓sz_11, ↓sz_12, ↓sz_13, ↓u_dNewT, ↓u_sPutT, ↓u_sSeq, ↓u_sNext, ↓u_sSet, ↓u_sSetN, ↓u_sAsg, ↓u_sIf, ↓u_sRet, ↓u_sRetN, ↓u_sDrop, ↓u_sPar, ↓u_sFor, ↓u_sBreak, ↓u_sCont, ↓u_dC, ↓u_d2, ↓u_d1, ↓u_dTup, ↓u_dNew, ↓u_aNil, ↓u_aCons, ↓u_nLst, ↓u_tAnd', ↓u_tOr', ↓u_tNot', ↓u_dIf, ↓u_gName', ↓u_dCall, ↓u_dB, ↓u_dLenN, ↓u_dTupN, ↓u_dM, ↓u_iNew, ↓u_nLc, ↓u_dN1, ↓u_dCut, ↓u_nCutN, ↓u_nCatNN, ↓u_d2N, ↓u_dNN, ↓u_tYes', ↓u_dS, List.set_cons_zero, List.set_cons_succ, dwipe, ite_true, ite_false, Bool.false_eq_true, Bool.true_eq_false, Bool.not_true, Bool.not_false, beq_self_eq_true, decide_eq_true_eq, Bool.not_eq_true', decide_eq_false_iff_not, mput_same, mput_put, dends, List.length_cons, List.length_nil, true_and, and_true, Nat.reduceAdd, Nat.reduceEqDiff, Int.reduceToNat, ↓x_tabLen, ↓x_fr0, ↓x_fr1, ↓x_kn0, ↓x_kn1, ↓x_map, ↓x_at0, ↓x_at1, ↓x_len, ↓x_row, ↓x_cut, ↓x_tup2, ↓x_tupfr, ↓x_isiT, ↓x_isiK, ↓x_isiF, ↓x_notN, ↓x_getT, ↓x_putT, ↓x_notNM]
        refine ⟨a, b, _, _, rfl, k5, by omega, by rw [List.length_map]; omega, by rw [List.length_map]; omega, fun v M3 v0 v1 hT3 hE => ?_⟩
        have hg3 : M3 g = some (.lst (mn.map D.int)) := by rw [hE g ga gb]; exact k4
        simp only [hg3, ↓bK_bl, ↓lstK_lst, ↓intK_int, ↓optK_some, ↓tBool_, ↓dAndV_, ↓dOrV_, ↓dNotV_, ↓gI_, ↓gI0_, ↓gAdd_int, ↓gAdd_str, ↓gAdd_tup, ↓gAdd_ref, ↓gNeg_, ↓gIx_tup, ↓gIx_rl, ↓gIx_ref, ↓gIx_str, ↓atK_0, ↓atK_1, ↓atK_2, ↓atK_3, ↓atK_4, ↓atK_5, ↓atK_6, ↓atK_7, ↓atK_last, ↓setK_0, ↓setK_1, ↓setK_2, ↓setK_3, ↓gLen_str, ↓gLen_tup, ↓gLen_rl, ↓gLen_ref, ↓gTupleOf_tup, ↓gTupleOf_rl, ↓gTupleOf_ref, ↓seqK_tup, ↓seqK_rl, ↓seqK_ref, ↓nListOf_, ↓isLst_ref, ↓gAppend_, ↓gInsert_, ↓isStr_str, ↓strK_str, ↓gStrCount_, ↓dJoinN_, ↓gPopAt_, ↓nRange1_, ↓gPop_, ↓refK_ref, ↓dExtN_, ↓gExt_, ↓gSetIx_, ↓itK_some, ↓iRow_, ↓rowIt_tup, ↓rowIt_rl, ↓rowIt_str, ↓iRng1_, ↓iRng2_, ↓iZip_, ↓iEnum_, ↓gNil_, ↓gCons_, ↓gTup_, ↓gTup_ref, ↓gAbs_, ↓gMax2_, ↓gMin2_, ↓gInt_int, ↓gInt_bl, ↓gLe_int, ↓gIsN_non, ↓gIsN_tup, ↓gIsN_int, ↓gIsN_str, ↓gIsN_ref, ↓gIsN_bl, ↓isi_bool_bool, ↓isi_bool_int, ↓isi_int_int, ↓isi_int_bool, ↓isi_tuple_tup, ↓isi_int_tup, ↓isi_bool_tup, ↓isi_str_str, ↓isi_tuple_int, ↓isi_tuple_non, ↓gEq_int, ↓gNe_int, ↓gEq_bl, ↓gNe_bl, ↓gEq_str, ↓gNe_str, ↓gEq_int_non, ↓oNone_, ↓oSome_, ↓gCut_str, ↓gCut_tup, ↓gCut_ref, ↓gCut_rl, ↓rowK_rl, ↓rowK_ref, ↓nCut_, ↓nSorted_, ↓gSorted1_, ↓nRev_, ↓nCatEN_, ↓nRep_, ↓tupK_tup, ↓keysD_two, ↓dtK_dT, ↓gGetT_, ↓gPutT_, ↓nKeysT_, ↓gIsB_, ↓nRepE_, ↓dIxN_, ↓gSumN_, ↓gAllN_, ↓gAnyN_, ↓gAnyI_, ↓gMaxN_, ↓gMax1_rl, ↓gMax1_ref, ↓gMinN_, ↓gMin1_rl, ↓gMin1_ref, ↓gSum_rl, ↓gSum_ref, ↓dChain_, ↓sAug_, ↓gIndex_, ↓dVar_0, ↓dVar_1, ↓dVar_2, ↓dVar_3, ↓dVar_4, ↓dVar_5, ↓dVar_6, ↓dVar_7, ↓dVar_8, ↓dVar_9, ↓dVar_10, ↓dVar_11, ↓dVar_12, ↓dVar_13, ↓dVar_14, ↓dVar_15, ↓dVar_16, ↓dVar_17, ↓dVar_18, ↓dVar_19, ↓dVar_20, ↓dVar_21, ↓dVar_22, ↓dVar_23, ↓dVar_24, ↓dVar_25, ↓sz_0, ↓sz_1, ↓sz_2, ↓sz_3, ↓sz_4, ↓sz_5, ↓sz_6, ↓sz_7, ↓sz_8, ↓sz_9, ↓sz_10, ↓sz_11, ↓sz_12, ↓sz_13, ↓u_dNewT, ↓u_sPutT, ↓u_sSeq, ↓u_sNext, ↓u_sSet, ↓u_sSetN, ↓u_sAsg, ↓u_sIf, ↓u_sRet, ↓u_sRetN, ↓u_sDrop, ↓u_sPar, ↓u_sFor, ↓u_sBreak, ↓u_sCont, ↓u_dC, ↓u_d2, ↓u_d1, ↓u_dTup, ↓u_dNew, ↓u_aNil, ↓u_aCons, ↓u_nLst, ↓u_tAnd', ↓u_tOr', ↓u_tNot', ↓u_dIf, ↓u_gName', ↓u_dCall, ↓u_dB, ↓u_dLenN, ↓u_dTupN, ↓u_dM, ↓u_iNew, ↓u_nLc, ↓u_dN1, ↓u_dCut, ↓u_nCutN, ↓u_nCatNN, ↓u_d2N, ↓u_dNN, ↓u_tYes', ↓u_dS, List.set_cons_zero, List.set_cons_succ, dwipe, ite_true, ite_false, Bool.false_eq_true, Bool.true_eq_false, Bool.not_true, Bool.not_false, beq_self_eq_true, decide_eq_true_eq, Bool.not_eq_true', decide_eq_false_iff_not, mput_same, mput_put, dends, List.length_cons, List.length_nil, true_and, and_true, Nat.reduceAdd, Nat.reduceEqDiff, Int.reduceToNat, ↓x_tabLen, ↓x_fr0, ↓x_fr1, ↓x_kn0, ↓x_kn1, ↓x_map, ↓x_at0, ↓x_at1, ↓x_len, ↓x_row, ↓x_cut, ↓x_tup2, ↓x_tupfr, ↓x_isiT, ↓x_isiK, ↓x_isiF, ↓x_notN, ↓x_getT, ↓x_putT, ↓x_notNM]
        rw [List.length_map] at v1
        refine at_ints v0 v1 fun z hz => ?_
        refine ⟨by rw [List.length_map]; omega, hW4 _ _ ⟨us ++ [z], by simp, by simp; omega, ?_, ?_, hg3, hT3.mono (by simp; omega)⟩⟩
        · intro u hu
          rcases List.mem_append.mp hu with h | h
          · exact k2 u h
          · simp at h
            subst h
            exact hm _ hz
        · intro p hp
          have := k3 p hp
          exact ⟨by rw [hE _ this.2.1 this.2.2.1]; exact this.1, this.2⟩
  simp only [t_law_table_s1, ↓bK_bl, ↓lstK_lst, ↓intK_int, ↓optK_some, ↓tBool_, ↓dAndV_, ↓dOrV_, ↓dNotV_, ↓gI_, ↓gI0_, ↓gAdd_int, ↓gAdd_str, ↓gAdd_tup, ↓gAdd_ref, ↓gNeg_, ↓gIx_tup, ↓gIx_rl, ↓gIx_ref, ↓gIx_str, ↓atK_0, ↓atK_1, ↓atK_2, ↓atK_3, ↓atK_4, ↓atK_5, ↓atK_6, ↓atK_7, ↓atK_last, ↓setK_0, ↓setK_1, ↓setK_2, ↓setK_3, ↓gLen_str, ↓gLen_tup, ↓gLen_rl, ↓gLen_ref, ↓gTupleOf_tup, ↓gTupleOf_rl, ↓gTupleOf_ref, ↓seqK_tup, ↓seqK_rl, ↓seqK_ref, ↓nListOf_, ↓isLst_ref, ↓gAppend_, ↓gInsert_, ↓isStr_str, ↓strK_str, ↓gStrCount_, ↓dJoinN_, ↓gPopAt_, ↓nRange1_, ↓gPop_, ↓refK_ref, ↓dExtN_, ↓gExt_, ↓gSetIx_, ↓itK_some, ↓iRow_, ↓rowIt_tup, ↓rowIt_rl, ↓rowIt_str, ↓iRng1_, ↓iRng2_, ↓iZip_, ↓iEnum_, ↓gNil_, ↓gCons_, ↓gTup_, ↓gTup_ref, ↓gAbs_, ↓gMax2_, ↓gMin2_, ↓gInt_int, ↓gInt_bl, ↓gLe_int, ↓gIsN_non, ↓gIsN_tup, ↓gIsN_int, ↓gIsN_str, ↓gIsN_ref, ↓gIsN_bl, ↓isi_bool_bool, ↓isi_bool_int, ↓isi_int_int, ↓isi_int_bool, ↓isi_tuple_tup, ↓isi_int_tup, ↓isi_bool_tup, ↓isi_str_str, ↓isi_tuple_int, ↓isi_tuple_non, ↓gEq_int, ↓gNe_int, ↓gEq_bl, ↓gNe_bl, ↓gEq_str, ↓gNe_str, ↓gEq_int_non, ↓oNone_, ↓oSome_, ↓gCut_str, ↓gCut_tup, ↓gCut_ref, ↓gCut_rl, ↓rowK_rl, ↓rowK_ref, ↓nCut_, ↓nSorted_, ↓gSorted1_, ↓nRev_, ↓nCatEN_, ↓nRep_, ↓tupK_tup, ↓keysD_two, ↓dtK_dT, ↓gGetT_, ↓gPutT_, ↓nKeysT_, ↓gIsB_, ↓nRepE_, ↓dIxN_, ↓gSumN_, ↓gAllN_, ↓gAnyN_, ↓gAnyI_, ↓gMaxN_, ↓gMax1_rl, ↓gMax1_ref, ↓gMinN_, ↓gMin1_rl, ↓gMin1_ref, ↓gSum_rl, ↓gSum_ref, ↓dChain_, ↓sAug_, ↓gIndex_, ↓dVar_0, ↓dVar_1, ↓dVar_2, ↓dVar_3, ↓dVar_4, ↓dVar_5, ↓dVar_6, ↓dVar_7, ↓dVar_8, ↓dVar_9, ↓dVar_10, ↓dVar_11, ↓dVar_12, ↓dVar_13, ↓dVar_14, ↓dVar_15, ↓dVar_16, ↓dVar_17, ↓dVar_18, ↓dVar_19, ↓dVar_20, ↓dVar_21, ↓dVar_22, ↓dVar_23, ↓dVar_24, ↓dVar_25, ↓sz_0, ↓sz_1, ↓sz_2, ↓sz_3, ↓sz_4, ↓sz_5, ↓sz_6, ↓sz_7, ↓sz_8, ↓sz_9, ↓sz_10, ↓sz_11, ↓sz_12, ↓sz_13, ↓u_dNewT, ↓u_sPutT, ↓u_sSeq, ↓u_sNext, ↓u_sSet, ↓u_sSetN, ↓u_sAsg, ↓u_sIf, ↓u_sRet, ↓u_sRetN, ↓u_sDrop, ↓u_sPar, ↓u_sFor, ↓u_sBreak, ↓u_sCont, ↓u_dC, ↓u_d2, ↓u_d1, ↓u_dTup, ↓u_dNew, ↓u_aNil, ↓u_aCons, ↓u_nLst, ↓u_tAnd', ↓u_tOr', ↓u_tNot', ↓u_dIf, ↓u_gName', ↓u_dCall, ↓u_dB, ↓u_dLenN, ↓u_dTupN, ↓u_dM, ↓u_iNew, ↓u_nLc, ↓u_dN1, ↓u_dCut, ↓u_nCutN, ↓u_nCatNN, ↓u_d2N, ↓u_dNN, ↓u_tYes', ↓u_dS, List.set_cons_zero, List.set_cons_succ, dwipe, ite_true, ite_false, Bool.false_eq_true, Bool.true_eq_false, Bool.not_true, Bool.not_false, beq_self_eq_true, decide_eq_true_eq, Bool.not_eq_true', decide_eq_false_iff_not, mput_same, mput_put, dends, List.length_cons, List.length_nil, true_and, and_true, Nat.reduceAdd, Nat.reduceEqDiff, Int.reduceToNat, ↓x_tabLen, ↓x_fr0, ↓x_fr1, ↓x_kn0, ↓x_kn1, ↓x_map, ↓x_at0, ↓x_at1, ↓x_len, ↓x_row, ↓x_cut, ↓x_tup2, ↓x_tupfr, ↓x_isiT, ↓x_isiK, ↓x_isiF, ↓x_notN, ↓x_getT, ↓x_putT, ↓x_notNM]
  intro g1 e1 g2 e2 g3 e3 g4 e4 g5 e5 g6 e6 g7 e7 g8 e8
  have d1_ : TDeck (N + 1) (mput m1 g1 (O.lst ([0, 1].map D.int))) a b := hD1.new e1
  have k1_ : Mnu a b (mput m1 g1 (O.lst ([0, 1].map D.int))) g1 := Mnu.here hD1 e1 (by simp) (by simp) (by simp)
  have d2_ : TDeck (N + 1) (mput (mput m1 g1 (O.lst ([0, 1].map D.int))) g2 (O.lst ([0, 0, 0, 1].map D.int))) a b := d1_.new e2
  have k2_ : Mnu a b (mput (mput m1 g1 (O.lst ([0, 1].map D.int))) g2 (O.lst ([0, 0, 0, 1].map D.int))) g2 := Mnu.here d1_ e2 (by simp) (by simp) (by simp)
  have k1_ : Mnu a b (mput (mput m1 g1 (O.lst ([0, 1].map D.int))) g2 (O.lst ([0, 0, 0, 1].map D.int))) g1 := k1_.new e2
  have d3_ : TDeck (N + 1) (mput (mput (mput m1 g1 (O.lst ([0, 1].map D.int))) g2 (O.lst ([0, 0, 0, 1].map D.int))) g3 (O.lst ([0, 0, 1].map D.int))) a b := d2_.new e3
  have k3_ : Mnu a b (mput (mput (mput m1 g1 (O.lst ([0, 1].map D.int))) g2 (O.lst ([0, 0, 0, 1].map D.int))) g3 (O.lst ([0, 0, 1].map D.int))) g3 := Mnu.here d2_ e3 (by simp) (by simp) (by simp)
  have k1_ : Mnu a b (mput (mput (mput m1 g1 (O.lst ([0, 1].map D.int))) g2 (O.lst ([0, 0, 0, 1].map D.int))) g3 (O.lst ([0, 0, 1].map D.int))) g1 := k1_.new e3
  have k2_ : Mnu a b (mput (mput (mput m1 g1 (O.lst ([0, 1].map D.int))) g2 (O.lst ([0, 0, 0, 1].map D.int))) g3 (O.lst ([0, 0, 1].map D.int))) g2 := k2_.new e3
  have d4_ : TDeck (N + 1) (mput (mput (mput (mput m1 g1 (O.lst ([0, 1].map D.int))) g2 (O.lst ([0, 0, 0, 1].map D.int))) g3 (O.lst ([0, 0, 1].map D.int))) g4 (O.lst ([1].map D.int))) a b := d3_.new e4
  have k4_ : Mnu a b (mput (mput (mput (mput m1 g1 (O.lst ([0, 1].map D.int))) g2 (O.lst ([0, 0, 0, 1].map D.int))) g3 (O.lst ([0, 0, 1].map D.int))) g4 (O.lst ([1].map D.int))) g4 := Mnu.here d3_ e4 (by simp) (by simp) (by simp)
  have k1_ : Mnu a b (mput (mput (mput (mput m1 g1 (O.lst ([0, 1].map D.int))) g2 (O.lst ([0, 0, 0, 1].map D.int))) g3 (O.lst ([0, 0, 1].map D.int))) g4 (O.lst ([1].map D.int))) g1 := k1_.new e4
  have k2_ : Mnu a b (mput (mput (mput (mput m1 g1 (O.lst ([0, 1].map D.int))) g2 (O.lst ([0, 0, 0, 1].map D.int))) g3 (O.lst ([0, 0, 1].map D.int))) g4 (O.lst ([1].map D.int))) g2 := k2_.new e4
  have k3_ : Mnu a b (mput (mput (mput (mput m1 g1 (O.lst ([0, 1].map D.int))) g2 (O.lst ([0, 0, 0, 1].map D.int))) g3 (O.lst ([0, 0, 1].map D.int))) g4 (O.lst ([1].map D.int))) g3 := k3_.new e4
  have d5_ : TDeck (N + 1) (mput (mput (mput (mput (mput m1 g1 (O.lst ([0, 1].map D.int))) g2 (O.lst ([0, 0, 0, 1].map D.int))) g3 (O.lst ([0, 0, 1].map D.int))) g4 (O.lst ([1].map D.int))) g5 (O.lst ([0, 1, 2].map D.int))) a b := d4_.new e5
  have k5_ : Mnu a b (mput (mput (mput (mput (mput m1 g1 (O.lst ([0, 1].map D.int))) g2 (O.lst ([0, 0, 0, 1].map D.int))) g3 (O.lst ([0, 0, 1].map D.int))) g4 (O.lst ([1].map D.int))) g5 (O.lst ([0, 1, 2].map D.int))) g5 := Mnu.here d4_ e5 (by simp) (by simp) (by simp)
  have k1_ : Mnu a b (mput (mput (mput (mput (mput m1 g1 (O.lst ([0, 1].map D.int))) g2 (O.lst ([0, 0, 0, 1].map D.int))) g3 (O.lst ([0, 0, 1].map D.int))) g4 (O.lst ([1].map D.int))) g5 (O.lst ([0, 1, 2].map D.int))) g1 := k1_.new e5
  have k2_ : Mnu a b (mput (mput (mput (mput (mput m1 g1 (O.lst ([0, 1].map D.int))) g2 (O.lst ([0, 0, 0, 1].map D.int))) g3 (O.lst ([0, 0, 1].map D.int))) g4 (O.lst ([1].map D.int))) g5 (O.lst ([0, 1, 2].map D.int))) g2 := k2_.new e5
  have k3_ : Mnu a b (mput (mput (mput (mput (mput m1 g1 (O.lst ([0, 1].map D.int))) g2 (O.lst ([0, 0, 0, 1].map D.int))) g3 (O.lst ([0, 0, 1].map D.int))) g4 (O.lst ([1].map D.int))) g5 (O.lst ([0, 1, 2].map D.int))) g3 := k3_.new e5
  have k4_ : Mnu a b (mput (mput (mput (mput (mput m1 g1 (O.lst ([0, 1].map D.int))) g2 (O.lst ([0, 0, 0, 1].map D.int))) g3 (O.lst ([0, 0, 1].map D.int))) g4 (O.lst ([1].map D.int))) g5 (O.lst ([0, 1, 2].map D.int))) g4 := k4_.new e5
  have d6_ : TDeck (N + 1) (mput (mput (mput (mput (mput (mput m1 g1 (O.lst ([0, 1].map D.int))) g2 (O.lst ([0, 0, 0, 1].map D.int))) g3 (O.lst ([0, 0, 1].map D.int))) g4 (O.lst ([1].map D.int))) g5 (O.lst ([0, 1, 2].map D.int))) g6 (O.lst ([0, 0, 0, 9].map D.int))) a b := d5_.new e6
  have k6_ : Mnu a b (mput (mput (mput (mput (mput (mput m1 g1 (O.lst ([0, 1].map D.int))) g2 (O.lst ([0, 0, 0, 1].map D.int))) g3 (O.lst ([0, 0, 1].map D.int))) g4 (O.lst ([1].map D.int))) g5 (O.lst ([0, 1, 2].map D.int))) g6 (O.lst ([0, 0, 0, 9].map D.int))) g6 := Mnu.here d5_ e6 (by simp) (by simp) (by simp)
  have k1_ : Mnu a b (mput (mput (mput (mput (mput (mput m1 g1 (O.lst ([0, 1].map D.int))) g2 (O.lst ([0, 0, 0, 1].map D.int))) g3 (O.lst ([0, 0, 1].map D.int))) g4 (O.lst ([1].map D.int))) g5 (O.lst ([0, 1, 2].map D.int))) g6 (O.lst ([0, 0, 0, 9].map D.int))) g1 := k1_.new e6
  have k2_ : Mnu a b (mput (mput (mput (mput (mput (mput m1 g1 (O.lst ([0, 1].map D.int))) g2 (O.lst ([0, 0, 0, 1].map D.int))) g3 (O.lst ([0, 0, 1].map D.int))) g4 (O.lst ([1].map D.int))) g5 (O.lst ([0, 1, 2].map D.int))) g6 (O.lst ([0, 0, 0, 9].map D.int))) g2 := k2_.new e6
  have k3_ : Mnu a b (mput (mput (mput (mput (mput (mput m1 g1 (O.lst ([0, 1].map D.int))) g2 (O.lst ([0, 0, 0, 1].map D.int))) g3 (O.lst ([0, 0, 1].map D.int))) g4 (O.lst ([1].map D.int))) g5 (O.lst ([0, 1, 2].map D.int))) g6 (O.lst ([0, 0, 0, 9].map D.int))) g3 := k3_.new e6
  have k4_ : Mnu a b (mput (mput (mput (mput (mput (mput m1 g1 (O.lst ([0, 1].map D.int))) g2 (O.lst ([0, 0, 0, 1].map D.int))) g3 (O.lst ([0, 0, 1].map D.int))) g4 (O.lst ([1].map D.int))) g5 (O.lst ([0, 1, 2].map D.int))) g6 (O.lst ([0, 0, 0, 9].map D.int))) g4 := k4_.new e6
  have k5_ : Mnu a b (mput (mput (mput (mput (mput (mput m1 g1 (O.lst ([0, 1].map D.int))) g2 (O.lst ([0, 0, 0, 1].map D.int))) g3 (O.lst ([0, 0, 1].map D.int))) g4 (O.lst ([1].map D.int))) g5 (O.lst ([0, 1, 2].map D.int))) g6 (O.lst ([0, 0, 0, 9].map D.int))) g5 := k5_.new e6
  have d7_ : TDeck (N + 1) (mput (mput (mput (mput (mput (mput (mput m1 g1 (O.lst ([0, 1].map D.int))) g2 (O.lst ([0, 0, 0, 1].map D.int))) g3 (O.lst ([0, 0, 1].map D.int))) g4 (O.lst ([1].map D.int))) g5 (O.lst ([0, 1, 2].map D.int))) g6 (O.lst ([0, 0, 0, 9].map D.int))) g7 (O.lst ([0, 5, 9, 1].map D.int))) a b := d6_.new e7
  have k7_ : Mnu a b (mput (mput (mput (mput (mput (mput (mput m1 g1 (O.lst ([0, 1].map D.int))) g2 (O.lst ([0, 0, 0, 1].map D.int))) g3 (O.lst ([0, 0, 1].map D.int))) g4 (O.lst ([1].map D.int))) g5 (O.lst ([0, 1, 2].map D.int))) g6 (O.lst ([0, 0, 0, 9].map D.int))) g7 (O.lst ([0, 5, 9, 1].map D.int))) g7 := Mnu.here d6_ e7 (by simp) (by simp) (by simp)
  have k1_ : Mnu a b (mput (mput (mput (mput (mput (mput (mput m1 g1 (O.lst ([0, 1].map D.int))) g2 (O.lst ([0, 0, 0, 1].map D.int))) g3 (O.lst ([0, 0, 1].map D.int))) g4 (O.lst ([1].map D.int))) g5 (O.lst ([0, 1, 2].map D.int))) g6 (O.lst ([0, 0, 0, 9].map D.int))) g7 (O.lst ([0, 5, 9, 1].map D.int))) g1 := k1_.new e7
  have k2_ : Mnu a b (mput (mput (mput (mput (mput (mput (mput m1 g1 (O.lst ([0, 1].map D.int))) g2 (O.lst ([0, 0, 0, 1].map D.int))) g3 (O.lst ([0, 0, 1].map D.int))) g4 (O.lst ([1].map D.int))) g5 (O.lst ([0, 1, 2].map D.int))) g6 (O.lst ([0, 0, 0, 9].map D.int))) g7 (O.lst ([0, 5, 9, 1].map D.int))) g2 := k2_.new e7
  have k3_ : Mnu a b (mput (mput (mput (mput (mput (mput (mput m1 g1 (O.lst ([0, 1].map D.int))) g2 (O.lst ([0, 0, 0, 1].map D.int))) g3 (O.lst ([0, 0, 1].map D.int))) g4 (O.lst ([1].map D.int))) g5 (O.lst ([0, 1, 2].map D.int))) g6 (O.lst ([0, 0, 0, 9].map D.int))) g7 (O.lst ([0, 5, 9, 1].map D.int))) g3 := k3_.new e7
  have k4_ : Mnu a b (mput (mput (mput (mput (mput (mput (mput m1 g1 (O.lst ([0, 1].map D.int))) g2 (O.lst ([0, 0, 0, 1].map D.int))) g3 (O.lst ([0, 0, 1].map D.int))) g4 (O.lst ([1].map D.int))) g5 (O.lst ([0, 1, 2].map D.int))) g6 (O.lst ([0, 0, 0, 9].map D.int))) g7 (O.lst ([0, 5, 9, 1].map D.int))) g4 := k4_.new e7
  have k5_ : Mnu a b (mput (mput (mput (mput (mput (mput (mput m1 g1 (O.lst ([0, 1].map D.int))) g2 (O.lst ([0, 0, 0, 1].map D.int))) g3 (O.lst ([0, 0, 1].map D.int))) g4 (O.lst ([1].map D.int))) g5 (O.lst ([0, 1, 2].map D.int))) g6 (O.lst ([0, 0, 0, 9].map D.int))) g7 (O.lst ([0, 5, 9, 1].map D.int))) g5 := k5_.new e7
  have k6_ : Mnu a b (mput (mput (mput (mput (mput (mput (mput m1 g1 (O.lst ([0, 1].map D.int))) g2 (O.lst ([0, 0, 0, 1].map D.int))) g3 (O.lst ([0, 0, 1].map D.int))) g4 (O.lst ([1].map D.int))) g5 (O.lst ([0, 1, 2].map D.int))) g6 (O.lst ([0, 0, 0, 9].map D.int))) g7 (O.lst ([0, 5, 9, 1].map D.int))) g6 := k6_.new e7
  have d8_ : TDeck (N + 1) (mput (mput (mput (mput (mput (mput (mput (mput m1 g1 (O.lst ([0, 1].map D.int))) g2 (O.lst ([0, 0, 0, 1].map D.int))) g3 (O.lst ([0, 0, 1].map D.int))) g4 (O.lst ([1].map D.int))) g5 (O.lst ([0, 1, 2].map D.int))) g6 (O.lst ([0, 0, 0, 9].map D.int))) g7 (O.lst ([0, 5, 9, 1].map D.int))) g8 (O.lst ([0].map D.int))) a b := d7_.new e8
  have k8_ : Mnu a b (mput (mput (mput (mput (mput (mput (mput (mput m1 g1 (O.lst ([0, 1].map D.int))) g2 (O.lst ([0, 0, 0, 1].map D.int))) g3 (O.lst ([0, 0, 1].map D.int))) g4 (O.lst ([1].map D.int))) g5 (O.lst ([0, 1, 2].map D.int))) g6 (O.lst ([0, 0, 0, 9].map D.int))) g7 (O.lst ([0, 5, 9, 1].map D.int))) g8 (O.lst ([0].map D.int))) g8 := Mnu.here d7_ e8 (by simp) (by simp) (by simp)
  have k1_ : Mnu a b (mput (mput (mput (mput (mput (mput (mput (mput m1 g1 (O.lst ([0, 1].map D.int))) g2 (O.lst ([0, 0, 0, 1].map D.int))) g3 (O.lst ([0, 0, 1].map D.int))) g4 (O.lst ([1].map D.int))) g5 (O.lst ([0, 1, 2].map D.int))) g6 (O.lst ([0, 0, 0, 9].map D.int))) g7 (O.lst ([0, 5, 9, 1].map D.int))) g8 (O.lst ([0].map D.int))) g1 := k1_.new e8
  have k2_ : Mnu a b (mput (mput (mput (mput (mput (mput (mput (mput m1 g1 (O.lst ([0, 1].map D.int))) g2 (O.lst ([0, 0, 0, 1].map D.int))) g3 (O.lst ([0, 0, 1].map D.int))) g4 (O.lst ([1].map D.int))) g5 (O.lst ([0, 1, 2].map D.int))) g6 (O.lst ([0, 0, 0, 9].map D.int))) g7 (O.lst ([0, 5, 9, 1].map D.int))) g8 (O.lst ([0].map D.int))) g2 := k2_.new e8
  have k3_ : Mnu a b (mput (mput (mput (mput (mput (mput (mput (mput m1 g1 (O.lst ([0, 1].map D.int))) g2 (O.lst ([0, 0, 0, 1].map D.int))) g3 (O.lst ([0, 0, 1].map D.int))) g4 (O.lst ([1].map D.int))) g5 (O.lst ([0, 1, 2].map D.int))) g6 (O.lst ([0, 0, 0, 9].map D.int))) g7 (O.lst ([0, 5, 9, 1].map D.int))) g8 (O.lst ([0].map D.int))) g3 := k3_.new e8
  have k4_ : Mnu a b (mput (mput (mput (mput (mput (mput (mput (mput m1 g1 (O.lst ([0, 1].map D.int))) g2 (O.lst ([0, 0, 0, 1].map D.int))) g3 (O.lst ([0, 0, 1].map D.int))) g4 (O.lst ([1].map D.int))) g5 (O.lst ([0, 1, 2].map D.int))) g6 (O.lst ([0, 0, 0, 9].map D.int))) g7 (O.lst ([0, 5, 9, 1].map D.int))) g8 (O.lst ([0].map D.int))) g4 := k4_.new e8
  have k5_ : Mnu a b (mput (mput (mput (mput (mput (mput (mput (mput m1 g1 (O.lst ([0, 1].map D.int))) g2 (O.lst ([0, 0, 0, 1].map D.int))) g3 (O.lst ([0, 0, 1].map D.int))) g4 (O.lst ([1].map D.int))) g5 (O.lst ([0, 1, 2].map D.int))) g6 (O.lst ([0, 0, 0, 9].map D.int))) g7 (O.lst ([0, 5, 9, 1].map D.int))) g8 (O.lst ([0].map D.int))) g5 := k5_.new e8
  have k6_ : Mnu a b (mput (mput (mput (mput (mput (mput (mput (mput m1 g1 (O.lst ([0, 1].map D.int))) g2 (O.lst ([0, 0, 0, 1].map D.int))) g3 (O.lst ([0, 0, 1].map D.int))) g4 (O.lst ([1].map D.int))) g5 (O.lst ([0, 1, 2].map D.int))) g6 (O.lst ([0, 0, 0, 9].map D.int))) g7 (O.lst ([0, 5, 9, 1].map D.int))) g8 (O.lst ([0].map D.int))) g6 := k6_.new e8
  have k7_ : Mnu a b (mput (mput (mput (mput (mput (mput (mput (mput m1 g1 (O.lst ([0, 1].map D.int))) g2 (O.lst ([0, 0, 0, 1].map D.int))) g3 (O.lst ([0, 0, 1].map D.int))) g4 (O.lst ([1].map D.int))) g5 (O.lst ([0, 1, 2].map D.int))) g6 (O.lst ([0, 0, 0, 9].map D.int))) g7 (O.lst ([0, 5, 9, 1].map D.int))) g8 (O.lst ([0].map D.int))) g7 := k7_.new e8
  have kk : ∀ x ∈ [g1, g2, g3, g4, g5, g6, g7, g8], Mnu a b (mput (mput (mput (mput (mput (mput (mput (mput m1 g1 (O.lst ([0, 1].map D.int))) g2 (O.lst ([0, 0, 0, 1].map D.int))) g3 (O.lst ([0, 0, 1].map D.int))) g4 (O.lst ([1].map D.int))) g5 (O.lst ([0, 1, 2].map D.int))) g6 (O.lst ([0, 0, 0, 9].map D.int))) g7 (O.lst ([0, 5, 9, 1].map D.int))) g8 (O.lst ([0].map D.int))) x := by
    intro x hx
    simp at hx
    rcases hx with rfl | rfl | rfl | rfl | rfl | rfl | rfl | rfl <;> assumption
  clear k1_ k2_ k3_ k4_ k5_ k6_ k7_ k8_ d1_ d2_ d3_ d4_ d5_ d6_ d7_
  refine ⟨a, b, 8, _, rfl, d8_, by omega, by omega, by omega, fun v M2 v0 v1 hT2 hE => ?_⟩
  try simp only [↓bK_bl, ↓lstK_lst, ↓intK_int, ↓optK_some, ↓tBool_, ↓dAndV_, ↓dOrV_, ↓dNotV_, ↓gI_, ↓gI0_, ↓gAdd_int, ↓gAdd_str, ↓gAdd_tup, ↓gAdd_ref, ↓gNeg_, ↓gIx_tup, ↓gIx_rl, ↓gIx_ref, ↓gIx_str, ↓atK_0, ↓atK_1, ↓atK_2, ↓atK_3, ↓atK_4, ↓atK_5, ↓atK_6, ↓atK_7, ↓atK_last, ↓setK_0, ↓setK_1, ↓setK_2, ↓setK_3, ↓gLen_str, ↓gLen_tup, ↓gLen_rl, ↓gLen_ref, ↓gTupleOf_tup, ↓gTupleOf_rl, ↓gTupleOf_ref, ↓seqK_tup, ↓seqK_rl, ↓seqK_ref, ↓nListOf_, ↓isLst_ref, ↓gAppend_, ↓gInsert_, ↓isStr_str, ↓strK_str, ↓gStrCount_, ↓dJoinN_, ↓gPopAt_, ↓nRange1_, ↓gPop_, ↓refK_ref, ↓dExtN_, ↓gExt_, ↓gSetIx_, ↓itK_some, ↓iRow_, ↓rowIt_tup, ↓rowIt_rl, ↓rowIt_str, ↓iRng1_, ↓iRng2_, ↓iZip_, ↓iEnum_, ↓gNil_, ↓gCons_, ↓gTup_, ↓gTup_ref, ↓gAbs_, ↓gMax2_, ↓gMin2_, ↓gInt_int, ↓gInt_bl, ↓gLe_int, ↓gIsN_non, ↓gIsN_tup, ↓gIsN_int, ↓gIsN_str, ↓gIsN_ref, ↓gIsN_bl, ↓isi_bool_bool, ↓isi_bool_int, ↓isi_int_int, ↓isi_int_bool, ↓isi_tuple_tup, ↓isi_int_tup, ↓isi_bool_tup, ↓isi_str_str, ↓isi_tuple_int, ↓isi_tuple_non, ↓gEq_int, ↓gNe_int, ↓gEq_bl, ↓gNe_bl, ↓gEq_str, ↓gNe_str, ↓gEq_int_non, ↓oNone_, ↓oSome_, ↓gCut_str, ↓gCut_tup, ↓gCut_ref, ↓gCut_rl, ↓rowK_rl, ↓rowK_ref, ↓nCut_, ↓nSorted_, ↓gSorted1_, ↓nRev_, ↓nCatEN_, ↓nRep_, ↓tupK_tup, ↓keysD_two, ↓dtK_dT, ↓gGetT_, ↓gPutT_, ↓nKeysT_, ↓gIsB_, ↓nRepE_, ↓dIxN_, ↓gSumN_, ↓gAllN_, ↓gAnyN_, ↓gAnyI_, ↓gMaxN_, ↓gMax1_rl, ↓gMax1_ref, ↓gMinN_, ↓gMin1_rl, ↓gMin1_ref, ↓gSum_rl, ↓gSum_ref, ↓dChain_, ↓sAug_, ↓gIndex_, ↓dVar_0, ↓dVar_1, ↓dVar_2, ↓dVar_3, ↓dVar_4, ↓dVar_5, ↓dVar_6, ↓dVar_7, ↓dVar_8, ↓dVar_9, ↓dVar_10, ↓dVar_11, ↓dVar_12, ↓dVar_13, ↓dVar_14, ↓dVar_15, ↓dVar_16, ↓dVar_17, ↓dVar_18, ↓dVar_19, ↓dVar_20, ↓dVar_21, ↓dVar_22, ↓dVar_23, ↓dVar_24, ↓dVar_25, ↓sz_0, ↓sz_1, ↓sz_2, ↓sz_3, ↓sz_4, ↓sz_5, ↓sz_6, ↓sz_7, ↓sz_8, ↓sz_9, ↓sz_10, ↓sz_11, ↓sz_12, ↓sz_13, ↓u_dNewT, ↓u_sPutT, ↓u_sSeq, ↓u_sNext, ↓u_sSet, ↓u_sSetN, ↓u_sAsg, ↓u_sIf, ↓u_sRet, ↓u_sRetN, ↓u_sDrop, ↓u_sPar, ↓u_sFor, ↓u_sBreak, ↓u_sCont, ↓u_dC, ↓u_d2, ↓u_d1, ↓u_dTup, ↓u_dNew, ↓u_aNil, ↓u_aCons, ↓u_nLst, ↓u_tAnd', ↓u_tOr', ↓u_tNot', ↓u_dIf, ↓u_gName', ↓u_dCall, ↓u_dB, ↓u_dLenN, ↓u_dTupN, ↓u_dM, ↓u_iNew, ↓u_nLc, ↓u_dN1, ↓u_dCut, ↓u_nCutN, ↓u_nCatNN, ↓u_d2N, ↓u_dNN, ↓u_tYes', ↓u_dS, List.set_cons_zero, List.set_cons_succ, dwipe, ite_true, ite_false, Bool.false_eq_true, Bool.true_eq_false, Bool.not_true, Bool.not_false, beq_self_eq_true, decide_eq_true_eq, Bool.not_eq_true', decide_eq_false_iff_not, mput_same, mput_put, dends, List.length_cons, List.length_nil, true_and, and_true, Nat.reduceAdd, Nat.reduceEqDiff, Int.reduceToNat, ↓x_tabLen, ↓x_fr0, ↓x_fr1, ↓x_kn0, ↓x_kn1, ↓x_map, ↓x_at0, ↓x_at1, ↓x_len, ↓x_row, ↓x_cut, ↓x_tup2, ↓x_tupfr, ↓x_isiT, ↓x_isiK, ↓x_isiF, ↓x_notN, ↓x_getT, ↓x_putT, ↓x_notNM]
  refine at_map (f := D.ref) (xs := [g1, g2, g3, g4, g5, g6, g7, g8]) v0 (by simpa using v1) fun x hx => ?_
  obtain ⟨xa, xb, mn, hmn, l1, l2, hz⟩ := kk x hx
  exact fromR x mn M2 (by rw [hE x xa xb]; exact hmn) xa xb l1 l2 hz (hT2.mono (by omega))

/-! ### law -/
def t_law_b2 : DTS :=
  (sIf (tOr' (tNot' (tBool (dCall sp_law_right (aCons (dCall sp_law_table (aCons (dVar 1) (aCons (dVar 2) aNil))) aNil)))) (tNot' (tBool (dCall sp_law_right (aCons (dCall sp_law_long (aCons (dVar 1) aNil)) aNil))))) (sRet (dC (.bl false))) sNext)
def t_law_s3 : DTS :=
  (sRet (dAndV (dIsN false (dCall sp_all_reached (aCons (dTup (aCons (dTup (aCons (dC (.int 0)) aNil)) aNil)) aNil))) (dEq (dCall sp_all_reached (aCons (dTup (aCons (dTup (aCons (dC (.int 9)) aNil)) aNil)) aNil)) (dC (.int 1)))))
def t_law_s1 : DTS :=
  (sSeq (sFor (iNew (nLst (aCons (dC (.int 8)) (aCons (dC (.int 12)) (aCons (dC (.int 4)) (aCons (dC (.int 8)) (aCons (dC (.int 3)) (aCons (dC (.int 5)) (aCons (dC (.int 6)) (aCons (dC (.int 2)) aNil)))))))))) (gName' 2) t_law_b2) t_law_s3)
def t_law : DTS :=
  (sSeq (sSet 1 (dCall sp_law_deck (aCons (dVar 0) aNil))) t_law_s1)
def sp_law : DSp := fun ds m R _ => ∃ (ns : List Int), ds = [.rl (ns.map D.int)] ∧ ns.length ≤ 63 ∧ ∀ m', R (.bl true) m'
theorem len_law : ∀ ds m R E, sp_law ds m R E → ds.length = (["script"] : List Str).length := by
  rintro ds m R E ⟨ns, rfl, _⟩
  rfl
theorem law_sp (ns : List Int) (hl : ns.length ≤ 63) (hb : ∀ z ∈ ns, Builtin.Int.intBits z ≤ 1048576) : sp_law [.rl (ns.map D.int)] (fun _ => none) (fun d _ => d = .bl true) X0 :=
  ⟨ns, rfl, hl, fun _ => rfl⟩
theorem fst_0 : fstF 1 [[0]] (1 * 1 + 1) = none := by
  refine fst_none fun k hk h => ?_
  have h := h 0 (by decide) 0 (by decide)
  obtain ⟨q, hq, _, hr⟩ := h
  have : q = 0 := by omega
  subst this
  exact hr rfl
theorem fst_9 : fstF 1 [[9]] (1 * 1 + 1) = some 0 := by
  refine fst_some (by decide) (fun k hk => by omega) ?_
  intro i hi j hj
  have h1 : i = 0 := by omega
  have h2 : j = 0 := by omega
  subst h1 h2
  exact ⟨0, by decide, rfl, by unfold relT; decide⟩
theorem rd_law : ∀ ds m R E, sp_law ds m R E → t_law (dends R) (dstart 3 ds) m := by
  rintro ds m R E ⟨ns, rfl, hl, hR⟩
  show t_law (dends R) [some (.rl (ns.map D.int)), none, none] m
  simp only [t_law, ↓bK_bl, ↓lstK_lst, ↓intK_int, ↓optK_some, ↓tBool_, ↓dAndV_, ↓dOrV_, ↓dNotV_, ↓gI_, ↓gI0_, ↓gAdd_int, ↓gAdd_str, ↓gAdd_tup, ↓gAdd_ref, ↓gNeg_, ↓gIx_tup, ↓gIx_rl, ↓gIx_ref, ↓gIx_str, ↓atK_0, ↓atK_1, ↓atK_2, ↓atK_3, ↓atK_4, ↓atK_5, ↓atK_6, ↓atK_7, ↓atK_last, ↓setK_0, ↓setK_1, ↓setK_2, ↓setK_3, ↓gLen_str, ↓gLen_tup, ↓gLen_rl, ↓gLen_ref, ↓gTupleOf_tup, ↓gTupleOf_rl, ↓gTupleOf_ref, ↓seqK_tup, ↓seqK_rl, ↓seqK_ref, ↓nListOf_, ↓isLst_ref, ↓gAppend_, ↓gInsert_, ↓isStr_str, ↓strK_str, ↓gStrCount_, ↓dJoinN_, ↓gPopAt_, ↓nRange1_, ↓gPop_, ↓refK_ref, ↓dExtN_, ↓gExt_, ↓gSetIx_, ↓itK_some, ↓iRow_, ↓rowIt_tup, ↓rowIt_rl, ↓rowIt_str, ↓iRng1_, ↓iRng2_, ↓iZip_, ↓iEnum_, ↓gNil_, ↓gCons_, ↓gTup_, ↓gTup_ref, ↓gAbs_, ↓gMax2_, ↓gMin2_, ↓gInt_int, ↓gInt_bl, ↓gLe_int, ↓gIsN_non, ↓gIsN_tup, ↓gIsN_int, ↓gIsN_str, ↓gIsN_ref, ↓gIsN_bl, ↓isi_bool_bool, ↓isi_bool_int, ↓isi_int_int, ↓isi_int_bool, ↓isi_tuple_tup, ↓isi_int_tup, ↓isi_bool_tup, ↓isi_str_str, ↓isi_tuple_int, ↓isi_tuple_non, ↓gEq_int, ↓gNe_int, ↓gEq_bl, ↓gNe_bl, ↓gEq_str, ↓gNe_str, ↓gEq_int_non, ↓oNone_, ↓oSome_, ↓gCut_str, ↓gCut_tup, ↓gCut_ref, ↓gCut_rl, ↓rowK_rl, ↓rowK_ref, ↓nCut_, ↓nSorted_, ↓gSorted1_, ↓nRev_, ↓nCatEN_, ↓nRep_, ↓tupK_tup, ↓keysD_two, ↓dtK_dT, ↓gGetT_, ↓gPutT_, ↓nKeysT_, ↓gIsB_, ↓nRepE_, ↓dIxN_, ↓gSumN_, ↓gAllN_, ↓gAnyN_, ↓gAnyI_, ↓gMaxN_, ↓gMax1_rl, ↓gMax1_ref, ↓gMinN_, ↓gMin1_rl, ↓gMin1_ref, ↓gSum_rl, ↓gSum_ref, ↓dChain_, ↓sAug_, ↓gIndex_, ↓dVar_0, ↓dVar_1, ↓dVar_2, ↓dVar_3, ↓dVar_4, ↓dVar_5, ↓dVar_6, ↓dVar_7, ↓dVar_8, ↓dVar_9, ↓dVar_10, ↓dVar_11, ↓dVar_12, ↓dVar_13, ↓dVar_14, ↓dVar_15, ↓dVar_16, ↓dVar_17, ↓dVar_18, ↓dVar_19, ↓dVar_20, ↓dVar_21, ↓dVar_22, ↓dVar_23, ↓dVar_24, ↓dVar_25, ↓sz_0, ↓sz_1, ↓sz_2, ↓sz_3, ↓sz_4, ↓sz_5, ↓sz_6, ↓sz_7, ↓sz_8, ↓sz_9, ↓sz_10, ↓sz_11, ↓sz_12, ↓sz_13, ↓u_dNewT, ↓u_sPutT, ↓u_sSeq, ↓u_sNext, ↓u_sSet, ↓u_sSetN, ↓u_sAsg, ↓u_sIf, ↓u_sRet, ↓u_sRetN, ↓u_sDrop, ↓u_sPar, ↓u_sFor, ↓u_sBreak, ↓u_sCont, ↓u_dC, ↓u_d2, ↓u_d1, ↓u_dTup, ↓u_dNew, ↓u_aNil, ↓u_aCons, ↓u_nLst, ↓u_tAnd', ↓u_tOr', ↓u_tNot', ↓u_dIf, ↓u_gName', ↓u_dCall, ↓u_dB, ↓u_dLenN, ↓u_dTupN, ↓u_dM, ↓u_iNew, ↓u_nLc, ↓u_dN1, ↓u_dCut, ↓u_nCutN, ↓u_nCatNN, ↓u_d2N, ↓u_dNN, ↓u_tYes', ↓u_dS, List.set_cons_zero, List.set_cons_succ, dwipe, ite_true, ite_false, Bool.false_eq_true, Bool.true_eq_false, Bool.not_true, Bool.not_false, beq_self_eq_true, decide_eq_true_eq, Bool.not_eq_true', decide_eq_false_iff_not, mput_same, mput_put, dends, List.length_cons, List.length_nil, true_and, and_true, Nat.reduceAdd, Nat.reduceEqDiff, Int.reduceToNat, ↓x_tabLen, ↓x_fr0, ↓x_fr1, ↓x_kn0, ↓x_kn1, ↓x_map, ↓x_at0, ↓x_at1, ↓x_len, ↓x_row, ↓x_cut, ↓x_tup2, ↓x_tupfr, ↓x_isiT, ↓x_isiK, ↓x_isiF, ↓x_notN, ↓x_getT, ↓x_putT, ↓x_notNM]
  refine ⟨ns, rfl, hl, fun a b m1 hD => ?_⟩
  simp only [t_law_s1, ↓bK_bl, ↓lstK_lst, ↓intK_int, ↓optK_some, ↓tBool_, ↓dAndV_, ↓dOrV_, ↓dNotV_, ↓gI_, ↓gI0_, ↓gAdd_int, ↓gAdd_str, ↓gAdd_tup, ↓gAdd_ref, ↓gNeg_, ↓gIx_tup, ↓gIx_rl, ↓gIx_ref, ↓gIx_str, ↓atK_0, ↓atK_1, ↓atK_2, ↓atK_3, ↓atK_4, ↓atK_5, ↓atK_6, ↓atK_7, ↓atK_last, ↓setK_0, ↓setK_1, ↓setK_2, ↓setK_3, ↓gLen_str, ↓gLen_tup, ↓gLen_rl, ↓gLen_ref, ↓gTupleOf_tup, ↓gTupleOf_rl, ↓gTupleOf_ref, ↓seqK_tup, ↓seqK_rl, ↓seqK_ref, ↓nListOf_, ↓isLst_ref, ↓gAppend_, ↓gInsert_, ↓isStr_str, ↓strK_str, ↓gStrCount_, ↓dJoinN_, ↓gPopAt_, ↓nRange1_, ↓gPop_, ↓refK_ref, ↓dExtN_, ↓gExt_, ↓gSetIx_, ↓itK_some, ↓iRow_, ↓rowIt_tup, ↓rowIt_rl, ↓rowIt_str, ↓iRng1_, ↓iRng2_, ↓iZip_, ↓iEnum_, ↓gNil_, ↓gCons_, ↓gTup_, ↓gTup_ref, ↓gAbs_, ↓gMax2_, ↓gMin2_, ↓gInt_int, ↓gInt_bl, ↓gLe_int, ↓gIsN_non, ↓gIsN_tup, ↓gIsN_int, ↓gIsN_str, ↓gIsN_ref, ↓gIsN_bl, ↓isi_bool_bool, ↓isi_bool_int, ↓isi_int_int, ↓isi_int_bool, ↓isi_tuple_tup, ↓isi_int_tup, ↓isi_bool_tup, ↓isi_str_str, ↓isi_tuple_int, ↓isi_tuple_non, ↓gEq_int, ↓gNe_int, ↓gEq_bl, ↓gNe_bl, ↓gEq_str, ↓gNe_str, ↓gEq_int_non, ↓oNone_, ↓oSome_, ↓gCut_str, ↓gCut_tup, ↓gCut_ref, ↓gCut_rl, ↓rowK_rl, ↓rowK_ref, ↓nCut_, ↓nSorted_, ↓gSorted1_, ↓nRev_, ↓nCatEN_, ↓nRep_, ↓tupK_tup, ↓keysD_two, ↓dtK_dT, ↓gGetT_, ↓gPutT_, ↓nKeysT_, ↓gIsB_, ↓nRepE_, ↓dIxN_, ↓gSumN_, ↓gAllN_, ↓gAnyN_, ↓gAnyI_, ↓gMaxN_, ↓gMax1_rl, ↓gMax1_ref, ↓gMinN_, ↓gMin1_rl, ↓gMin1_ref, ↓gSum_rl, ↓gSum_ref, ↓dChain_, ↓sAug_, ↓gIndex_, ↓dVar_0, ↓dVar_1, ↓dVar_2, ↓dVar_3, ↓dVar_4, ↓dVar_5, ↓dVar_6, ↓dVar_7, ↓dVar_8, ↓dVar_9, ↓dVar_10, ↓dVar_11, ↓dVar_12, ↓dVar_13, ↓dVar_14, ↓dVar_15, ↓dVar_16, ↓dVar_17, ↓dVar_18, ↓dVar_19, ↓dVar_20, ↓dVar_21, ↓dVar_22, ↓dVar_23, ↓dVar_24, ↓dVar_25, ↓sz_0, ↓sz_1, ↓sz_2, ↓sz_3, ↓sz_4, ↓sz_5, ↓sz_6, ↓sz_7, ↓sz_8, ↓sz_9, ↓sz_10, ↓sz_11, ↓sz_12, ↓sz_13, ↓u_dNewT, ↓u_sPutT, ↓u_sSeq, ↓u_sNext, ↓u_sSet, ↓u_sSetN, ↓u_sAsg, ↓u_sIf, ↓u_sRet, ↓u_sRetN, ↓u_sDrop, ↓u_sPar, ↓u_sFor, ↓u_sBreak, ↓u_sCont, ↓u_dC, ↓u_d2, ↓u_d1, ↓u_dTup, ↓u_dNew, ↓u_aNil, ↓u_aCons, ↓u_nLst, ↓u_tAnd', ↓u_tOr', ↓u_tNot', ↓u_dIf, ↓u_gName', ↓u_dCall, ↓u_dB, ↓u_dLenN, ↓u_dTupN, ↓u_dM, ↓u_iNew, ↓u_nLc, ↓u_dN1, ↓u_dCut, ↓u_nCutN, ↓u_nCatNN, ↓u_d2N, ↓u_dNN, ↓u_tYes', ↓u_dS, List.set_cons_zero, List.set_cons_succ, dwipe, ite_true, ite_false, Bool.false_eq_true, Bool.true_eq_false, Bool.not_true, Bool.not_false, beq_self_eq_true, decide_eq_true_eq, Bool.not_eq_true', decide_eq_false_iff_not, mput_same, mput_put, dends, List.length_cons, List.length_nil, true_and, and_true, Nat.reduceAdd, Nat.reduceEqDiff, Int.reduceToNat, ↓x_tabLen, ↓x_fr0, ↓x_fr1, ↓x_kn0, ↓x_kn1, ↓x_map, ↓x_at0, ↓x_at1, ↓x_len, ↓x_row, ↓x_cut, ↓x_tup2, ↓x_tupfr, ↓x_isiT, ↓x_isiK, ↓x_isiF, ↓x_notN, ↓x_getT, ↓x_putT, ↓x_notNM]
  show forL _ _ _ ([8, 12, 4, 8, 3, 5, 6, 2].map D.int) _ _ _
  refine for_ind D.int (fun xs r M => (∀ z ∈ xs, 1 ≤ z ∧ z ≤ 12) ∧ xs.length ≤ 8 ∧ (∃ q2, r = [some (.rl (ns.map D.int)), some (.ref a), q2]) ∧ TDeck (2000 * (8 - xs.length)) M a b) ?_ ?_ [8, 12, 4, 8, 3, 5, 6, 2] _ _ ⟨by simp, by simp, ⟨_, rfl⟩, by simpa using hD⟩
  · rintro r M ⟨_, _, ⟨q2, rfl⟩, _⟩
    refine ⟨trivial, ?_⟩
    simp only [t_law_s3, ↓bK_bl, ↓lstK_lst, ↓intK_int, ↓optK_some, ↓tBool_, ↓dAndV_, ↓dOrV_, ↓dNotV_, ↓gI_, ↓gI0_, ↓gAdd_int, ↓gAdd_str, ↓gAdd_tup, ↓gAdd_ref, ↓gNeg_, ↓gIx_tup, ↓gIx_rl, ↓gIx_ref, ↓gIx_str, ↓atK_0, ↓atK_1, ↓atK_2, ↓atK_3, ↓atK_4, ↓atK_5, ↓atK_6, ↓atK_7, ↓atK_last, ↓setK_0, ↓setK_1, ↓setK_2, ↓setK_3, ↓gLen_str, ↓gLen_tup, ↓gLen_rl, ↓gLen_ref, ↓gTupleOf_tup, ↓gTupleOf_rl, ↓gTupleOf_ref, ↓seqK_tup, ↓seqK_rl, ↓seqK_ref, ↓nListOf_, ↓isLst_ref, ↓gAppend_, ↓gInsert_, ↓isStr_str, ↓strK_str, ↓gStrCount_, ↓dJoinN_, ↓gPopAt_, ↓nRange1_, ↓gPop_, ↓refK_ref, ↓dExtN_, ↓gExt_, ↓gSetIx_, ↓itK_some, ↓iRow_, ↓rowIt_tup, ↓rowIt_rl, ↓rowIt_str, ↓iRng1_, ↓iRng2_, ↓iZip_, ↓iEnum_, ↓gNil_, ↓gCons_, ↓gTup_, ↓gTup_ref, ↓gAbs_, ↓gMax2_, ↓gMin2_, ↓gInt_int, ↓gInt_bl, ↓gLe_int, ↓gIsN_non, ↓gIsN_tup, ↓gIsN_int, ↓gIsN_str, ↓gIsN_ref, ↓gIsN_bl, ↓isi_bool_bool, ↓isi_bool_int, ↓isi_int_int, ↓isi_int_bool, ↓isi_tuple_tup, ↓isi_int_tup, ↓isi_bool_tup, ↓isi_str_str, ↓isi_tuple_int, ↓isi_tuple_non, ↓gEq_int, ↓gNe_int, ↓gEq_bl, ↓gNe_bl, ↓gEq_str, ↓gNe_str, ↓gEq_int_non, ↓oNone_, ↓oSome_, ↓gCut_str, ↓gCut_tup, ↓gCut_ref, ↓gCut_rl, ↓rowK_rl, ↓rowK_ref, ↓nCut_, ↓nSorted_, ↓gSorted1_, ↓nRev_, ↓nCatEN_, ↓nRep_, ↓tupK_tup, ↓keysD_two, ↓dtK_dT, ↓gGetT_, ↓gPutT_, ↓nKeysT_, ↓gIsB_, ↓nRepE_, ↓dIxN_, ↓gSumN_, ↓gAllN_, ↓gAnyN_, ↓gAnyI_, ↓gMaxN_, ↓gMax1_rl, ↓gMax1_ref, ↓gMinN_, ↓gMin1_rl, ↓gMin1_ref, ↓gSum_rl, ↓gSum_ref, ↓dChain_, ↓sAug_, ↓gIndex_, ↓dVar_0, ↓dVar_1, ↓dVar_2, ↓dVar_3, ↓dVar_4, ↓dVar_5, ↓dVar_6, ↓dVar_7, ↓dVar_8, ↓dVar_9, ↓dVar_10, ↓dVar_11, ↓dVar_12, ↓dVar_13, ↓dVar_14, ↓dVar_15, ↓dVar_16, ↓dVar_17, ↓dVar_18, ↓dVar_19, ↓dVar_20, ↓dVar_21, ↓dVar_22, ↓dVar_23, ↓dVar_24, ↓dVar_25, ↓sz_0, ↓sz_1, ↓sz_2, ↓sz_3, ↓sz_4, ↓sz_5, ↓sz_6, ↓sz_7, ↓sz_8, ↓sz_9, ↓sz_10, ↓sz_11, ↓sz_12, ↓sz_13, ↓u_dNewT, ↓u_sPutT, ↓u_sSeq, ↓u_sNext, ↓u_sSet, ↓u_sSetN, ↓u_sAsg, ↓u_sIf, ↓u_sRet, ↓u_sRetN, ↓u_sDrop, ↓u_sPar, ↓u_sFor, ↓u_sBreak, ↓u_sCont, ↓u_dC, ↓u_d2, ↓u_d1, ↓u_dTup, ↓u_dNew, ↓u_aNil, ↓u_aCons, ↓u_nLst, ↓u_tAnd', ↓u_tOr', ↓u_tNot', ↓u_dIf, ↓u_gName', ↓u_dCall, ↓u_dB, ↓u_dLenN, ↓u_dTupN, ↓u_dM, ↓u_iNew, ↓u_nLc, ↓u_dN1, ↓u_dCut, ↓u_nCutN, ↓u_nCatNN, ↓u_d2N, ↓u_dNN, ↓u_tYes', ↓u_dS, List.set_cons_zero, List.set_cons_succ, dwipe, ite_true, ite_false, Bool.false_eq_true, Bool.true_eq_false, Bool.not_true, Bool.not_false, beq_self_eq_true, decide_eq_true_eq, Bool.not_eq_true', decide_eq_false_iff_not, mput_same, mput_put, dends, List.length_cons, List.length_nil, true_and, and_true, Nat.reduceAdd, Nat.reduceEqDiff, Int.reduceToNat, ↓x_tabLen, ↓x_fr0, ↓x_fr1, ↓x_kn0, ↓x_kn1, ↓x_map, ↓x_at0, ↓x_at1, ↓x_len, ↓x_row, ↓x_cut, ↓x_tup2, ↓x_tupfr, ↓x_isiT, ↓x_isiK, ↓x_isiF, ↓x_notN, ↓x_getT, ↓x_putT, ↓x_notNM]
    refine ⟨[[0]], 1, rfl, ⟨by decide, rfl, by simp⟩, ?_⟩
    rw [fst_0]
    simp only [ansN, ↓bK_bl, ↓lstK_lst, ↓intK_int, ↓optK_some, ↓tBool_, ↓dAndV_, ↓dOrV_, ↓dNotV_, ↓gI_, ↓gI0_, ↓gAdd_int, ↓gAdd_str, ↓gAdd_tup, ↓gAdd_ref, ↓gNeg_, ↓gIx_tup, ↓gIx_rl, ↓gIx_ref, ↓gIx_str, ↓atK_0, ↓atK_1, ↓atK_2, ↓atK_3, ↓atK_4, ↓atK_5, ↓atK_6, ↓atK_7, ↓atK_last, ↓setK_0, ↓setK_1, ↓setK_2, ↓setK_3, ↓gLen_str, ↓gLen_tup, ↓gLen_rl, ↓gLen_ref, ↓gTupleOf_tup, ↓gTupleOf_rl, ↓gTupleOf_ref, ↓seqK_tup, ↓seqK_rl, ↓seqK_ref, ↓nListOf_, ↓isLst_ref, ↓gAppend_, ↓gInsert_, ↓isStr_str, ↓strK_str, ↓gStrCount_, ↓dJoinN_, ↓gPopAt_, ↓nRange1_, ↓gPop_, ↓refK_ref, ↓dExtN_, ↓gExt_, ↓gSetIx_, ↓itK_some, ↓iRow_, ↓rowIt_tup, ↓rowIt_rl, ↓rowIt_str, ↓iRng1_, ↓iRng2_, ↓iZip_, ↓iEnum_, ↓gNil_, ↓gCons_, ↓gTup_, ↓gTup_ref, ↓gAbs_, ↓gMax2_, ↓gMin2_, ↓gInt_int, ↓gInt_bl, ↓gLe_int, ↓gIsN_non, ↓gIsN_tup, ↓gIsN_int, ↓gIsN_str, ↓gIsN_ref, ↓gIsN_bl, ↓isi_bool_bool, ↓isi_bool_int, ↓isi_int_int, ↓isi_int_bool, ↓isi_tuple_tup, ↓isi_int_tup, ↓isi_bool_tup, ↓isi_str_str, ↓isi_tuple_int, ↓isi_tuple_non, ↓gEq_int, ↓gNe_int, ↓gEq_bl, ↓gNe_bl, ↓gEq_str, ↓gNe_str, ↓gEq_int_non, ↓oNone_, ↓oSome_, ↓gCut_str, ↓gCut_tup, ↓gCut_ref, ↓gCut_rl, ↓rowK_rl, ↓rowK_ref, ↓nCut_, ↓nSorted_, ↓gSorted1_, ↓nRev_, ↓nCatEN_, ↓nRep_, ↓tupK_tup, ↓keysD_two, ↓dtK_dT, ↓gGetT_, ↓gPutT_, ↓nKeysT_, ↓gIsB_, ↓nRepE_, ↓dIxN_, ↓gSumN_, ↓gAllN_, ↓gAnyN_, ↓gAnyI_, ↓gMaxN_, ↓gMax1_rl, ↓gMax1_ref, ↓gMinN_, ↓gMin1_rl, ↓gMin1_ref, ↓gSum_rl, ↓gSum_ref, ↓dChain_, ↓sAug_, ↓gIndex_, ↓dVar_0, ↓dVar_1, ↓dVar_2, ↓dVar_3, ↓dVar_4, ↓dVar_5, ↓dVar_6, ↓dVar_7, ↓dVar_8, ↓dVar_9, ↓dVar_10, ↓dVar_11, ↓dVar_12, ↓dVar_13, ↓dVar_14, ↓dVar_15, ↓dVar_16, ↓dVar_17, ↓dVar_18, ↓dVar_19, ↓dVar_20, ↓dVar_21, ↓dVar_22, ↓dVar_23, ↓dVar_24, ↓dVar_25, ↓sz_0, ↓sz_1, ↓sz_2, ↓sz_3, ↓sz_4, ↓sz_5, ↓sz_6, ↓sz_7, ↓sz_8, ↓sz_9, ↓sz_10, ↓sz_11, ↓sz_12, ↓sz_13, ↓u_dNewT, ↓u_sPutT, ↓u_sSeq, ↓u_sNext, ↓u_sSet, ↓u_sSetN, ↓u_sAsg, ↓u_sIf, ↓u_sRet, ↓u_sRetN, ↓u_sDrop, ↓u_sPar, ↓u_sFor, ↓u_sBreak, ↓u_sCont, ↓u_dC, ↓u_d2, ↓u_d1, ↓u_dTup, ↓u_dNew, ↓u_aNil, ↓u_aCons, ↓u_nLst, ↓u_tAnd', ↓u_tOr', ↓u_tNot', ↓u_dIf, ↓u_gName', ↓u_dCall, ↓u_dB, ↓u_dLenN, ↓u_dTupN, ↓u_dM, ↓u_iNew, ↓u_nLc, ↓u_dN1, ↓u_dCut, ↓u_nCutN, ↓u_nCatNN, ↓u_d2N, ↓u_dNN, ↓u_tYes', ↓u_dS, List.set_cons_zero, List.set_cons_succ, dwipe, ite_true, ite_false, Bool.false_eq_true, Bool.true_eq_false, Bool.not_true, Bool.not_false, beq_self_eq_true, decide_eq_true_eq, Bool.not_eq_true', decide_eq_false_iff_not, mput_same, mput_put, dends, List.length_cons, List.length_nil, true_and, and_true, Nat.reduceAdd, Nat.reduceEqDiff, Int.reduceToNat, ↓x_tabLen, ↓x_fr0, ↓x_fr1, ↓x_kn0, ↓x_kn1, ↓x_map, ↓x_at0, ↓x_at1, ↓x_len, ↓x_row, ↓x_cut, ↓x_tup2, ↓x_tupfr, ↓x_isiT, ↓x_isiK, ↓x_isiF, ↓x_notN, ↓x_getT, ↓x_putT, ↓x_notNM]
    refine ⟨[[9]], 1, rfl, ⟨by decide, rfl, by simp⟩, ?_⟩
    rw [fst_9]
    simp only [ansN, ↓bK_bl, ↓lstK_lst, ↓intK_int, ↓optK_some, ↓tBool_, ↓dAndV_, ↓dOrV_, ↓dNotV_, ↓gI_, ↓gI0_, ↓gAdd_int, ↓gAdd_str, ↓gAdd_tup, ↓gAdd_ref, ↓gNeg_, ↓gIx_tup, ↓gIx_rl, ↓gIx_ref, ↓gIx_str, ↓atK_0, ↓atK_1, ↓atK_2, ↓atK_3, ↓atK_4, ↓atK_5, ↓atK_6, ↓atK_7, ↓atK_last, ↓setK_0, ↓setK_1, ↓setK_2, ↓setK_3, ↓gLen_str, ↓gLen_tup, ↓gLen_rl, ↓gLen_ref, ↓gTupleOf_tup, ↓gTupleOf_rl, ↓gTupleOf_ref, ↓seqK_tup, ↓seqK_rl, ↓seqK_ref, ↓nListOf_, ↓isLst_ref, ↓gAppend_, ↓gInsert_, ↓isStr_str, ↓strK_str, ↓gStrCount_, ↓dJoinN_, ↓gPopAt_, ↓nRange1_, ↓gPop_, ↓refK_ref, ↓dExtN_, ↓gExt_, ↓gSetIx_, ↓itK_some, ↓iRow_, ↓rowIt_tup, ↓rowIt_rl, ↓rowIt_str, ↓iRng1_, ↓iRng2_, ↓iZip_, ↓iEnum_, ↓gNil_, ↓gCons_, ↓gTup_, ↓gTup_ref, ↓gAbs_, ↓gMax2_, ↓gMin2_, ↓gInt_int, ↓gInt_bl, ↓gLe_int, ↓gIsN_non, ↓gIsN_tup, ↓gIsN_int, ↓gIsN_str, ↓gIsN_ref, ↓gIsN_bl, ↓isi_bool_bool, ↓isi_bool_int, ↓isi_int_int, ↓isi_int_bool, ↓isi_tuple_tup, ↓isi_int_tup, ↓isi_bool_tup, ↓isi_str_str, ↓isi_tuple_int, ↓isi_tuple_non, ↓gEq_int, ↓gNe_int, ↓gEq_bl, ↓gNe_bl, ↓gEq_str, ↓gNe_str, ↓gEq_int_non, ↓oNone_, ↓oSome_, ↓gCut_str, ↓gCut_tup, ↓gCut_ref, ↓gCut_rl, ↓rowK_rl, ↓rowK_ref, ↓nCut_, ↓nSorted_, ↓gSorted1_, ↓nRev_, ↓nCatEN_, ↓nRep_, ↓tupK_tup, ↓keysD_two, ↓dtK_dT, ↓gGetT_, ↓gPutT_, ↓nKeysT_, ↓gIsB_, ↓nRepE_, ↓dIxN_, ↓gSumN_, ↓gAllN_, ↓gAnyN_, ↓gAnyI_, ↓gMaxN_, ↓gMax1_rl, ↓gMax1_ref, ↓gMinN_, ↓gMin1_rl, ↓gMin1_ref, ↓gSum_rl, ↓gSum_ref, ↓dChain_, ↓sAug_, ↓gIndex_, ↓dVar_0, ↓dVar_1, ↓dVar_2, ↓dVar_3, ↓dVar_4, ↓dVar_5, ↓dVar_6, ↓dVar_7, ↓dVar_8, ↓dVar_9, ↓dVar_10, ↓dVar_11, ↓dVar_12, ↓dVar_13, ↓dVar_14, ↓dVar_15, ↓dVar_16, ↓dVar_17, ↓dVar_18, ↓dVar_19, ↓dVar_20, ↓dVar_21, ↓dVar_22, ↓dVar_23, ↓dVar_24, ↓dVar_25, ↓sz_0, ↓sz_1, ↓sz_2, ↓sz_3, ↓sz_4, ↓sz_5, ↓sz_6, ↓sz_7, ↓sz_8, ↓sz_9, ↓sz_10, ↓sz_11, ↓sz_12, ↓sz_13, ↓u_dNewT, ↓u_sPutT, ↓u_sSeq, ↓u_sNext, ↓u_sSet, ↓u_sSetN, ↓u_sAsg, ↓u_sIf, ↓u_sRet, ↓u_sRetN, ↓u_sDrop, ↓u_sPar, ↓u_sFor, ↓u_sBreak, ↓u_sCont, ↓u_dC, ↓u_d2, ↓u_d1, ↓u_dTup, ↓u_dNew, ↓u_aNil, ↓u_aCons, ↓u_nLst, ↓u_tAnd', ↓u_tOr', ↓u_tNot', ↓u_dIf, ↓u_gName', ↓u_dCall, ↓u_dB, ↓u_dLenN, ↓u_dTupN, ↓u_dM, ↓u_iNew, ↓u_nLc, ↓u_dN1, ↓u_dCut, ↓u_nCutN, ↓u_nCatNN, ↓u_d2N, ↓u_dNN, ↓u_tYes', ↓u_dS, List.set_cons_zero, List.set_cons_succ, dwipe, ite_true, ite_false, Bool.false_eq_true, Bool.true_eq_false, Bool.not_true, Bool.not_false, beq_self_eq_true, decide_eq_true_eq, Bool.not_eq_true', decide_eq_false_iff_not, mput_same, mput_put, dends, List.length_cons, List.length_nil, true_and, and_true, Nat.reduceAdd, Nat.reduceEqDiff, Int.reduceToNat, ↓x_tabLen, ↓x_fr0, ↓x_fr1, ↓x_kn0, ↓x_kn1, ↓x_map, ↓x_at0, ↓x_at1, ↓x_len, ↓x_row, ↓x_cut, ↓x_tup2, ↓x_tupfr, ↓x_isiT, ↓x_isiK, ↓x_isiF, ↓x_notN, ↓x_getT, ↓x_putT, ↓x_notNM]
    exact fin_of (hR _)
  · rintro x xs nx hnx r M ⟨hx, hxl, ⟨q2, rfl⟩, hT⟩
    refine ⟨trivial, ?_⟩
    have hx1 := hx x List.mem_cons_self
    simp only [List.length_cons] at hxl hT
    simp only [t_law_b2, ↓bK_bl, ↓lstK_lst, ↓intK_int, ↓optK_some, ↓tBool_, ↓dAndV_, ↓dOrV_, ↓dNotV_, ↓gI_, ↓gI0_, ↓gAdd_int, ↓gAdd_str, ↓gAdd_tup, ↓gAdd_ref, ↓gNeg_, ↓gIx_tup, ↓gIx_rl, ↓gIx_ref, ↓gIx_str, ↓atK_0, ↓atK_1, ↓atK_2, ↓atK_3, ↓atK_4, ↓atK_5, ↓atK_6, ↓atK_7, ↓atK_last, ↓setK_0, ↓setK_1, ↓setK_2, ↓setK_3, ↓gLen_str, ↓gLen_tup, ↓gLen_rl, ↓gLen_ref, ↓gTupleOf_tup, ↓gTupleOf_rl, ↓gTupleOf_ref, ↓seqK_tup, ↓seqK_rl, ↓seqK_ref, ↓nListOf_, ↓isLst_ref, ↓gAppend_, ↓gInsert_, ↓isStr_str, ↓strK_str, ↓gStrCount_, ↓dJoinN_, ↓gPopAt_, ↓nRange1_, ↓gPop_, ↓refK_ref, ↓dExtN_, ↓gExt_, ↓gSetIx_, ↓itK_some, ↓iRow_, ↓rowIt_tup, ↓rowIt_rl, ↓rowIt_str, ↓iRng1_, ↓iRng2_, ↓iZip_, ↓iEnum_, ↓gNil_, ↓gCons_, ↓gTup_, ↓gTup_ref, ↓gAbs_, ↓gMax2_, ↓gMin2_, ↓gInt_int, ↓gInt_bl, ↓gLe_int, ↓gIsN_non, ↓gIsN_tup, ↓gIsN_int, ↓gIsN_str, ↓gIsN_ref, ↓gIsN_bl, ↓isi_bool_bool, ↓isi_bool_int, ↓isi_int_int, ↓isi_int_bool, ↓isi_tuple_tup, ↓isi_int_tup, ↓isi_bool_tup, ↓isi_str_str, ↓isi_tuple_int, ↓isi_tuple_non, ↓gEq_int, ↓gNe_int, ↓gEq_bl, ↓gNe_bl, ↓gEq_str, ↓gNe_str, ↓gEq_int_non, ↓oNone_, ↓oSome_, ↓gCut_str, ↓gCut_tup, ↓gCut_ref, ↓gCut_rl, ↓rowK_rl, ↓rowK_ref, ↓nCut_, ↓nSorted_, ↓gSorted1_, ↓nRev_, ↓nCatEN_, ↓nRep_, ↓tupK_tup, ↓keysD_two, ↓dtK_dT, ↓gGetT_, ↓gPutT_, ↓nKeysT_, ↓gIsB_, ↓nRepE_, ↓dIxN_, ↓gSumN_, ↓gAllN_, ↓gAnyN_, ↓gAnyI_, ↓gMaxN_, ↓gMax1_rl, ↓gMax1_ref, ↓gMinN_, ↓gMin1_rl, ↓gMin1_ref, ↓gSum_rl, ↓gSum_ref, ↓dChain_, ↓sAug_, ↓gIndex_, ↓dVar_0, ↓dVar_1, ↓dVar_2, ↓dVar_3, ↓dVar_4, ↓dVar_5, ↓dVar_6, ↓dVar_7, ↓dVar_8, ↓dVar_9, ↓dVar_10, ↓dVar_11, ↓dVar_12, ↓dVar_13, ↓dVar_14, ↓dVar_15, ↓dVar_16, ↓dVar_17, ↓dVar_18, ↓dVar_19, ↓dVar_20, ↓dVar_21, ↓dVar_22, ↓dVar_23, ↓dVar_24, ↓dVar_25, ↓sz_0, ↓sz_1, ↓sz_2, ↓sz_3, ↓sz_4, ↓sz_5, ↓sz_6, ↓sz_7, ↓sz_8, ↓sz_9, ↓sz_10, ↓sz_11, ↓sz_12, ↓sz_13, ↓u_dNewT, ↓u_sPutT, ↓u_sSeq, ↓u_sNext, ↓u_sSet, ↓u_sSetN, ↓u_sAsg, ↓u_sIf, ↓u_sRet, ↓u_sRetN, ↓u_sDrop, ↓u_sPar, ↓u_sFor, ↓u_sBreak, ↓u_sCont, ↓u_dC, ↓u_d2, ↓u_d1, ↓u_dTup, ↓u_dNew, ↓u_aNil, ↓u_aCons, ↓u_nLst, ↓u_tAnd', ↓u_tOr', ↓u_tNot', ↓u_dIf, ↓u_gName', ↓u_dCall, ↓u_dB, ↓u_dLenN, ↓u_dTupN, ↓u_dM, ↓u_iNew, ↓u_nLc, ↓u_dN1, ↓u_dCut, ↓u_nCutN, ↓u_nCatNN, ↓u_d2N, ↓u_dNN, ↓u_tYes', ↓u_dS, List.set_cons_zero, List.set_cons_succ, dwipe, ite_true, ite_false, Bool.false_eq_true, Bool.true_eq_false, Bool.not_true, Bool.not_false, beq_self_eq_true, decide_eq_true_eq, Bool.not_eq_true', decide_eq_false_iff_not, mput_same, mput_put, dends, List.length_cons, List.length_nil, true_and, and_true, Nat.reduceAdd, Nat.reduceEqDiff, Int.reduceToNat, ↓x_tabLen, ↓x_fr0, ↓x_fr1, ↓x_kn0, ↓x_kn1, ↓x_map, ↓x_at0, ↓x_at1, ↓x_len, ↓x_row, ↓x_cut, ↓x_tup2, ↓x_tupfr, ↓x_isiT, ↓x_isiK, ↓x_isiF, ↓x_notN, ↓x_getT, ↓x_putT, ↓x_notNM]
    refine ⟨a, b, x, _, rfl, hT, by omega, hx1.1, hx1.2, fun n t M1 hTab hT1 => ?_⟩
    refine ⟨t, n, rfl, hTab, ?_⟩
    try simp only [↓bK_bl, ↓lstK_lst, ↓intK_int, ↓optK_some, ↓tBool_, ↓dAndV_, ↓dOrV_, ↓dNotV_, ↓gI_, ↓gI0_, ↓gAdd_int, ↓gAdd_str, ↓gAdd_tup, ↓gAdd_ref, ↓gNeg_, ↓gIx_tup, ↓gIx_rl, ↓gIx_ref, ↓gIx_str, ↓atK_0, ↓atK_1, ↓atK_2, ↓atK_3, ↓atK_4, ↓atK_5, ↓atK_6, ↓atK_7, ↓atK_last, ↓setK_0, ↓setK_1, ↓setK_2, ↓setK_3, ↓gLen_str, ↓gLen_tup, ↓gLen_rl, ↓gLen_ref, ↓gTupleOf_tup, ↓gTupleOf_rl, ↓gTupleOf_ref, ↓seqK_tup, ↓seqK_rl, ↓seqK_ref, ↓nListOf_, ↓isLst_ref, ↓gAppend_, ↓gInsert_, ↓isStr_str, ↓strK_str, ↓gStrCount_, ↓dJoinN_, ↓gPopAt_, ↓nRange1_, ↓gPop_, ↓refK_ref, ↓dExtN_, ↓gExt_, ↓gSetIx_, ↓itK_some, ↓iRow_, ↓rowIt_tup, ↓rowIt_rl, ↓rowIt_str, ↓iRng1_, ↓iRng2_, ↓iZip_, ↓iEnum_, ↓gNil_, ↓gCons_, ↓gTup_, ↓gTup_ref, ↓gAbs_, ↓gMax2_, ↓gMin2_, ↓gInt_int, ↓gInt_bl, ↓gLe_int, ↓gIsN_non, ↓gIsN_tup, ↓gIsN_int, ↓gIsN_str, ↓gIsN_ref, ↓gIsN_bl, ↓isi_bool_bool, ↓isi_bool_int, ↓isi_int_int, ↓isi_int_bool, ↓isi_tuple_tup, ↓isi_int_tup, ↓isi_bool_tup, ↓isi_str_str, ↓isi_tuple_int, ↓isi_tuple_non, ↓gEq_int, ↓gNe_int, ↓gEq_bl, ↓gNe_bl, ↓gEq_str, ↓gNe_str, ↓gEq_int_non, ↓oNone_, ↓oSome_, ↓gCut_str, ↓gCut_tup, ↓gCut_ref, ↓gCut_rl, ↓rowK_rl, ↓rowK_ref, ↓nCut_, ↓nSorted_, ↓gSorted1_, ↓nRev_, ↓nCatEN_, ↓nRep_, ↓tupK_tup, ↓keysD_two, ↓dtK_dT, ↓gGetT_, ↓gPutT_, ↓nKeysT_, ↓gIsB_, ↓nRepE_, ↓dIxN_, ↓gSumN_, ↓gAllN_, ↓gAnyN_, ↓gAnyI_, ↓gMaxN_, ↓gMax1_rl, ↓gMax1_ref, ↓gMinN_, ↓gMin1_rl, ↓gMin1_ref, ↓gSum_rl, ↓gSum_ref, ↓dChain_, ↓sAug_, ↓gIndex_, ↓dVar_0, ↓dVar_1, ↓dVar_2, ↓dVar_3, ↓dVar_4, ↓dVar_5, ↓dVar_6, ↓dVar_7, ↓dVar_8, ↓dVar_9, ↓dVar_10, ↓dVar_11, ↓dVar_12, ↓dVar_13, ↓dVar_14, ↓dVar_15, ↓dVar_16, ↓dVar_17, ↓dVar_18, ↓dVar_19, ↓dVar_20, ↓dVar_21, ↓dVar_22, ↓dVar_23, ↓dVar_24, ↓dVar_25, ↓sz_0, ↓sz_1, ↓sz_2, ↓sz_3, ↓sz_4, ↓sz_5, ↓sz_6, ↓sz_7, ↓sz_8, ↓sz_9, ↓sz_10, ↓sz_11, ↓sz_12, ↓sz_13, ↓u_dNewT, ↓u_sPutT, ↓u_sSeq, ↓u_sNext, ↓u_sSet, ↓u_sSetN, ↓u_sAsg, ↓u_sIf, ↓u_sRet, ↓u_sRetN, ↓u_sDrop, ↓u_sPar, ↓u_sFor, ↓u_sBreak, ↓u_sCont, ↓u_dC, ↓u_d2, ↓u_d1, ↓u_dTup, ↓u_dNew, ↓u_aNil, ↓u_aCons, ↓u_nLst, ↓u_tAnd', ↓u_tOr', ↓u_tNot', ↓u_dIf, ↓u_gName', ↓u_dCall, ↓u_dB, ↓u_dLenN, ↓u_dTupN, ↓u_dM, ↓u_iNew, ↓u_nLc, ↓u_dN1, ↓u_dCut, ↓u_nCutN, ↓u_nCatNN, ↓u_d2N, ↓u_dNN, ↓u_tYes', ↓u_dS, List.set_cons_zero, List.set_cons_succ, dwipe, ite_true, ite_false, Bool.false_eq_true, Bool.true_eq_false, Bool.not_true, Bool.not_false, beq_self_eq_true, decide_eq_true_eq, Bool.not_eq_true', decide_eq_false_iff_not, mput_same, mput_put, dends, List.length_cons, List.length_nil, true_and, and_true, Nat.reduceAdd, Nat.reduceEqDiff, Int.reduceToNat, ↓x_tabLen, ↓x_fr0, ↓x_fr1, ↓x_kn0, ↓x_kn1, ↓x_map, ↓x_at0, ↓x_at1, ↓x_len, ↓x_row, ↓x_cut, ↓x_tup2, ↓x_tupfr, ↓x_isiT, ↓x_isiK, ↓x_isiF, ↓x_notN, ↓x_getT, ↓x_putT, ↓x_notNM]
    refine ⟨a, b, _, rfl, hT1, by omega, fun n2 t2 M2 hTab2 hT2 => ?_⟩
    refine ⟨t2, n2, rfl, hTab2, ?_⟩
    try simp only [↓bK_bl, ↓lstK_lst, ↓intK_int, ↓optK_some, ↓tBool_, ↓dAndV_, ↓dOrV_, ↓dNotV_, ↓gI_, ↓gI0_, ↓gAdd_int, ↓gAdd_str, ↓gAdd_tup, ↓gAdd_ref, ↓gNeg_, ↓gIx_tup, ↓gIx_rl, ↓gIx_ref, ↓gIx_str, ↓atK_0, ↓atK_1, ↓atK_2, ↓atK_3, ↓atK_4, ↓atK_5, ↓atK_6, ↓atK_7, ↓atK_last, ↓setK_0, ↓setK_1, ↓setK_2, ↓setK_3, ↓gLen_str, ↓gLen_tup, ↓gLen_rl, ↓gLen_ref, ↓gTupleOf_tup, ↓gTupleOf_rl, ↓gTupleOf_ref, ↓seqK_tup, ↓seqK_rl, ↓seqK_ref, ↓nListOf_, ↓isLst_ref, ↓gAppend_, ↓gInsert_, ↓isStr_str, ↓strK_str, ↓gStrCount_, ↓dJoinN_, ↓gPopAt_, ↓nRange1_, ↓gPop_, ↓refK_ref, ↓dExtN_, ↓gExt_, ↓gSetIx_, ↓itK_some, ↓iRow_, ↓rowIt_tup, ↓rowIt_rl, ↓rowIt_str, ↓iRng1_, ↓iRng2_, ↓iZip_, ↓iEnum_, ↓gNil_, ↓gCons_, ↓gTup_, ↓gTup_ref, ↓gAbs_, ↓gMax2_, ↓gMin2_, ↓gInt_int, ↓gInt_bl, ↓gLe_int, ↓gIsN_non, ↓gIsN_tup, ↓gIsN_int, ↓gIsN_str, ↓gIsN_ref, ↓gIsN_bl, ↓isi_bool_bool, ↓isi_bool_int, ↓isi_int_int, ↓isi_int_bool, ↓isi_tuple_tup, ↓isi_int_tup, ↓isi_bool_tup, ↓isi_str_str, ↓isi_tuple_int, ↓isi_tuple_non, ↓gEq_int, ↓gNe_int, ↓gEq_bl, ↓gNe_bl, ↓gEq_str, ↓gNe_str, ↓gEq_int_non, ↓oNone_, ↓oSome_, ↓gCut_str, ↓gCut_tup, ↓gCut_ref, ↓gCut_rl, ↓rowK_rl, ↓rowK_ref, ↓nCut_, ↓nSorted_, ↓gSorted1_, ↓nRev_, ↓nCatEN_, ↓nRep_, ↓tupK_tup, ↓keysD_two, ↓dtK_dT, ↓gGetT_, ↓gPutT_, ↓nKeysT_, ↓gIsB_, ↓nRepE_, ↓dIxN_, ↓gSumN_, ↓gAllN_, ↓gAnyN_, ↓gAnyI_, ↓gMaxN_, ↓gMax1_rl, ↓gMax1_ref, ↓gMinN_, ↓gMin1_rl, ↓gMin1_ref, ↓gSum_rl, ↓gSum_ref, ↓dChain_, ↓sAug_, ↓gIndex_, ↓dVar_0, ↓dVar_1, ↓dVar_2, ↓dVar_3, ↓dVar_4, ↓dVar_5, ↓dVar_6, ↓dVar_7, ↓dVar_8, ↓dVar_9, ↓dVar_10, ↓dVar_11, ↓dVar_12, ↓dVar_13, ↓dVar_14, ↓dVar_15, ↓dVar_16, ↓dVar_17, ↓dVar_18, ↓dVar_19, ↓dVar_20, ↓dVar_21, ↓dVar_22, ↓dVar_23, ↓dVar_24, ↓dVar_25, ↓sz_0, ↓sz_1, ↓sz_2, ↓sz_3, ↓sz_4, ↓sz_5, ↓sz_6, ↓sz_7, ↓sz_8, ↓sz_9, ↓sz_10, ↓sz_11, ↓sz_12, ↓sz_13, ↓u_dNewT, ↓u_sPutT, ↓u_sSeq, ↓u_sNext, ↓u_sSet, ↓u_sSetN, ↓u_sAsg, ↓u_sIf, ↓u_sRet, ↓u_sRetN, ↓u_sDrop, ↓u_sPar, ↓u_sFor, ↓u_sBreak, ↓u_sCont, ↓u_dC, ↓u_d2, ↓u_d1, ↓u_dTup, ↓u_dNew, ↓u_aNil, ↓u_aCons, ↓u_nLst, ↓u_tAnd', ↓u_tOr', ↓u_tNot', ↓u_dIf, ↓u_gName', ↓u_dCall, ↓u_dB, ↓u_dLenN, ↓u_dTupN, ↓u_dM, ↓u_iNew, ↓u_nLc, ↓u_dN1, ↓u_dCut, ↓u_nCutN, ↓u_nCatNN, ↓u_d2N, ↓u_dNN, ↓u_tYes', ↓u_dS, List.set_cons_zero, List.set_cons_succ, dwipe, ite_true, ite_false, Bool.false_eq_true, Bool.true_eq_false, Bool.not_true, Bool.not_false, beq_self_eq_true, decide_eq_true_eq, Bool.not_eq_true', decide_eq_false_iff_not, mput_same, mput_put, dends, List.length_cons, List.length_nil, true_and, and_true, Nat.reduceAdd, Nat.reduceEqDiff, Int.reduceToNat, ↓x_tabLen, ↓x_fr0, ↓x_fr1, ↓x_kn0, ↓x_kn1, ↓x_map, ↓x_at0, ↓x_at1, ↓x_len, ↓x_row, ↓x_cut, ↓x_tup2, ↓x_tupfr, ↓x_isiT, ↓x_isiK, ↓x_isiF, ↓x_notN, ↓x_getT, ↓x_putT, ↓x_notNM]
    exact hnx _ _ ⟨fun z hz => hx z (List.mem_cons_of_mem _ hz), by omega, ⟨_, rfl⟩, hT2.mono (by omega)⟩

end DL

namespace DL
open PySem PySem.Spec PyProof.Rows L2
def topS (i : Nat) : Stmt := PySem.Challenge.pw_bentstretch_k63_all_reached.main.body.getD i (.Pass ⟨0, 0, 0, 0⟩)
structure Top (K : PySem.W.Frag) (mg : Str → Option Value) : Prop where
  a_law_deck : At K mg "_law_deck" "_law_deck" (topS 3)
  a_law_take : At K mg "_law_take" "_law_take" (topS 4)
  a_law_long : At K mg "_law_long" "_law_long" (topS 8)
  a_law_due : At K mg "_law_due" "_law_due" (topS 6)
  a_all_reached : At K mg "all_reached" "all_reached" (topS 1)
  a_law_right : At K mg "_law_right" "_law_right" (topS 7)
  a_law_table : At K mg "_law_table" "_law_table" (topS 5)
  a_law : At K mg "law" "law" (topS 9)
  b_all : mg "all" = none
  b_any : mg "any" = none
  b_bool : mg "bool" = none
  b_int : mg "int" = none
  b_isinstance : mg "isinstance" = none
  b_len : mg "len" = none
  b_list : mg "list" = none
  b_min : mg "min" = none
  b_range : mg "range" = none
  b_sum : mg "sum" = none
  b_tuple : mg "tuple" = none
  b_zip : mg "zip" = none
section
variable {P : Program} {w : World} {K : PySem.W.Frag} {mg : Str → Option Value} {base : Heap}
abbrev s_law_deck : Stmt := topS 3
theorem sc_law_deck : FnScope ["script", "cells", "seed", "k", "mixed"] ["script"] (defScope s_law_deck) := ⟨rfl, rfl, rfl, by decide +kernel, rfl, by decide +kernel, by decide +kernel⟩
theorem ok_law_deck (T : Top K mg) : Def P w K mg base "_law_deck" 1 ["script"] sp_law_deck := by
  refine def_mk (t := t_law_deck) T.a_law_deck sc_law_deck (fun _ _ _ _ _ _ us hl => match us, hl with | [_], _ => rfl) len_law_deck (fun f cdv A outer s H E hr => ?_) rd_law_deck
  exact (ds_cons (ds_setN (i := 1) sc_law_deck.nd rfl (by first | exact Or.inl rfl | exact Or.inr rfl) (dn_catNN (dn_cut (de_var 0) do_none (do_some de_int)) (dn_lst (da_cons (de_len (by rfl) T.b_len (da_cons (de_var 0) da_nil)) da_nil))))
      (ds_cons (ds_set (i := 2) sc_law_deck.nd rfl (by first | exact Or.inl rfl | exact Or.inr rfl) (de_mod (de_add (de_add (de_mul (de_sum (by rfl) (by rfl) T.b_sum (da_cons (de_cut (de_var 0) do_none (do_some de_int)) da_nil)) de_int) (de_mul de_int (de_len (by rfl) T.b_len (da_cons (de_var 0) da_nil)))) de_int) de_int))
      (ds_cons (ds_if (dt_eq hr (de_mod (de_sum (by rfl) (by rfl) T.b_sum (da_cons (de_cut (de_var 0) do_none (do_some de_int)) da_nil)) de_int) de_int) (ds_one (ds_for PassesOwn.never (by rfl) (di_range1 (by rfl) T.b_range (de_len (by rfl) T.b_len (da_cons (de_var 1) da_nil))) (dg_name (i := 3) sc_law_deck.nd rfl (by first | exact Or.inl rfl | exact Or.inr rfl)) (ds_cons (ds_set (i := 4) sc_law_deck.nd rfl (by first | exact Or.inl rfl | exact Or.inr rfl) (de_mod (de_mul (de_add (de_add (de_mod (de_at (de_var 1) (de_var 3)) de_int) (de_mul de_int (de_var 3))) de_int) de_int) de_int))
      (ds_cons (ds_set (i := 4) sc_law_deck.nd rfl (by first | exact Or.inl rfl | exact Or.inr rfl) (de_mod (de_mul (de_mod (de_add (de_mul (de_var 4) (de_var 4)) (de_mul de_int (de_var 3))) de_int) de_int) de_int))
      (ds_one (ds_asg (de_add (de_mul (de_mul (de_var 4) (de_var 4)) de_int) (de_mod (de_mul (de_var 4) de_int) de_int)) (dg_sub (de_var 1) (de_var 3)))))))) ds_nil)
      (ds_one (ds_ret (de_new (dn_lst (da_cons (de_var 1) (da_cons de_int (da_cons (de_var 2) da_nil))))))))))

abbrev s_law_take : Stmt := topS 4
theorem sc_law_take : FnScope ["deck", "many", "at", "cell", "one"] ["deck", "many"] (defScope s_law_take) := ⟨rfl, rfl, rfl, by decide +kernel, rfl, by decide +kernel, by decide +kernel⟩
theorem ok_law_take (T : Top K mg) : Def P w K mg base "_law_take" 1 ["deck", "many"] sp_law_take := by
  refine def_mk (t := t_law_take) T.a_law_take sc_law_take (fun _ _ _ _ _ _ us hl => match us, hl with | [_, _], _ => rfl) len_law_take (fun f cdv A outer s H E hr => ?_) rd_law_take
  exact (ds_cons (ds_set (i := 2) sc_law_take.nd rfl (by first | exact Or.inl rfl | exact Or.inr rfl) (de_mod (de_at (de_var 0) de_int) (de_len (by rfl) T.b_len (da_cons (de_at (de_var 0) de_int) da_nil))))
      (ds_cons (ds_asg (de_add (de_at (de_var 0) de_int) de_int) (dg_sub (de_var 0) de_int))
      (ds_cons (ds_set (i := 3) sc_law_take.nd rfl (by first | exact Or.inl rfl | exact Or.inr rfl) (de_at (de_at (de_var 0) de_int) (de_var 2)))
      (ds_cons (ds_if (DW.t (dw_or (dt_eq hr (de_var 3) de_int) (dw_or1 (dt_eq hr (de_var 3) (de_neg de_int))))) (ds_cons (ds_set (i := 4) sc_law_take.nd rfl (by first | exact Or.inl rfl | exact Or.inr rfl) (de_mod (de_mul (de_mod (de_add (de_at (de_var 0) de_int) (de_mul de_int (de_at (de_var 0) de_int))) de_int) de_int) de_int))
      (ds_cons (ds_set (i := 4) sc_law_take.nd rfl (by first | exact Or.inl rfl | exact Or.inr rfl) (de_mod (de_mul (de_mod (de_add (de_mul (de_var 4) (de_var 4)) (de_mul de_int (de_at (de_var 0) de_int))) de_int) de_int) de_int))
      (ds_one (ds_ret (de_mod (de_div (de_var 4) de_int) (de_var 1)))))) ds_nil)
      (ds_cons (ds_asg (de_div (de_var 3) (de_var 1)) (dg_sub (de_at (de_var 0) de_int) (de_var 2)))
      (ds_one (ds_ret (de_mod (de_var 3) (de_var 1)))))))))

abbrev s_law_long : Stmt := topS 8
theorem sc_law_long : FnScope ["deck", "size", "rows", "order", "shifted", "k", "j"] ["deck"] (defScope s_law_long) := ⟨rfl, rfl, rfl, by decide +kernel, rfl, by decide +kernel, by decide +kernel⟩
theorem ok_law_long (T : Top K mg) (G_law_take : Def P w K mg base "_law_take" 1 ["deck", "many"] sp_law_take) : Def P w K mg base "_law_long" 2 ["deck"] sp_law_long := by
  refine def_mk (t := t_law_long) T.a_law_long sc_law_long (fun _ _ _ _ _ _ us hl => match us, hl with | [_], _ => rfl) len_law_long (fun f cdv A outer s H E hr => ?_) rd_law_long
  exact (ds_cons (ds_set (i := 1) sc_law_long.nd rfl (by first | exact Or.inl rfl | exact Or.inr rfl) (de_add de_int (de_callD G_law_take (hr.mono (by decide)) (by rfl) (da_cons (de_var 0) (da_cons (de_atN (dn_lst (da_cons de_int (da_cons de_int da_nil))) (de_intOf (by rfl) T.b_int (da_cons (de_eq hr (de_callD G_law_take (hr.mono (by decide)) (by rfl) (da_cons (de_var 0) (da_cons de_int da_nil))) de_int) da_nil))) da_nil)))))
      (ds_cons (ds_setN (i := 2) sc_law_long.nd rfl (by first | exact Or.inl rfl | exact Or.inr rfl) (dn_lc (own := [("k", 5)]) (by rfl) sc_law_long.nd (di_range1 (by rfl) T.b_range (de_var 1)) (blkOk_by (show blkC ["deck", "size", "rows", "order", "shifted", "k", "j"] (defScope s_law_long) _ _ = true by decide +kernel)) (fun _ _ _ _ _ => (dgw_name (i := 5) sc_law_long.nd rfl (by first | exact Or.inl rfl | exact Or.inr rfl))) (fun _ _ _ _ _ => dts_nil) (fun _ _ _ _ _ => (de_new (dn_lc (own := [("j", 6)]) (by rfl) sc_law_long.nd (di_range1 (by rfl) T.b_range (de_var 1)) (blkOk_by (relab (show blkC ["deck", "size", "rows", "order", "shifted", "k", "j"] (relabelS _ (defScope s_law_long)) _ _ = true by decide +kernel))) (fun _ _ _ _ _ => (dgw_name (i := 6) sc_law_long.nd rfl (by first | exact Or.inl rfl | exact Or.inr rfl))) (fun _ _ _ _ _ => dts_nil) (fun _ _ _ _ _ => (de_intOf (by rfl) T.b_int (da_cons (de_eq hr (de_var 6) (de_mod (de_add (de_var 5) de_int) (de_var 1))) da_nil))))))))
      (ds_cons (ds_asg de_int (dg_sub (de_at (de_var 2) (de_sub (de_var 1) de_int)) (de_mod de_int (de_var 1))))
      (ds_cons (ds_setN (i := 3) sc_law_long.nd rfl (by first | exact Or.inl rfl | exact Or.inr rfl) (dn_range1 (by rfl) (by rfl) T.b_list (by rfl) T.b_range (de_var 1)))
      (ds_cons (ds_setN (i := 4) sc_law_long.nd rfl (by first | exact Or.inl rfl | exact Or.inr rfl) (dn_lc (own := [("k", 5)]) (by rfl) sc_law_long.nd (di_range1 (by rfl) T.b_range (de_var 1)) (blkOk_by (show blkC ["deck", "size", "rows", "order", "shifted", "k", "j"] (defScope s_law_long) _ _ = true by decide +kernel)) (fun _ _ _ _ _ => (dgw_name (i := 5) sc_law_long.nd rfl (by first | exact Or.inl rfl | exact Or.inr rfl))) (fun _ _ _ _ _ => dts_nil) (fun _ _ _ _ _ => (de_popAt (de_var 3) (da_cons (de_callD G_law_take (hr.mono (by decide)) (by rfl) (da_cons (de_var 0) (da_cons (de_len (by rfl) T.b_len (da_cons (de_var 3) da_nil)) da_nil))) da_nil)))))
      (ds_one (ds_ret (de_tupN (by rfl) T.b_tuple (dn_lc (own := [("k", 5)]) (by rfl) sc_law_long.nd (di_row (de_var 4)) (blkOk_by (show blkC ["deck", "size", "rows", "order", "shifted", "k", "j"] (defScope s_law_long) _ _ = true by decide +kernel)) (fun _ _ _ _ _ => (dgw_name (i := 5) sc_law_long.nd rfl (by first | exact Or.inl rfl | exact Or.inr rfl))) (fun _ _ _ _ _ => dts_nil) (fun _ _ _ _ _ => (de_tupN (by rfl) T.b_tuple (dn_lc (own := [("j", 6)]) (by rfl) sc_law_long.nd (di_row (de_var 4)) (blkOk_by (relab (show blkC ["deck", "size", "rows", "order", "shifted", "k", "j"] (relabelS _ (defScope s_law_long)) _ _ = true by decide +kernel))) (fun _ _ _ _ _ => (dgw_name (i := 6) sc_law_long.nd rfl (by first | exact Or.inl rfl | exact Or.inr rfl))) (fun _ _ _ _ _ => dts_nil) (fun _ _ _ _ _ => (de_at (de_at (de_var 2) (de_var 5)) (de_var 6)))))))))))))))

abbrev s_law_due : Stmt := topS 6
theorem sc_law_due : FnScope ["table", "size", "here", "turns", "told", "row", "k", "j"] ["table"] (defScope s_law_due) := ⟨rfl, rfl, rfl, by decide +kernel, rfl, by decide +kernel, by decide +kernel⟩
theorem ok_law_due (T : Top K mg) : Def P w K mg base "_law_due" 1 ["table"] sp_law_due := by
  refine def_mk (t := t_law_due) T.a_law_due sc_law_due (fun _ _ _ _ _ _ us hl => match us, hl with | [_], _ => rfl) len_law_due (fun f cdv A outer s H E hr => ?_) rd_law_due
  exact (ds_cons (ds_set (i := 1) sc_law_due.nd rfl (by first | exact Or.inl rfl | exact Or.inr rfl) (de_len (by rfl) T.b_len (da_cons (de_var 0) da_nil)))
      (ds_cons (ds_setLc (i := 2) (own := [("k", 6)]) (by rfl) sc_law_due.nd rfl rfl (sw_true rfl rfl rfl (by decide +kernel)) (di_range1 (by rfl) T.b_range (de_var 1)) (blkOk_by (show blkC ["table", "size", "here", "turns", "told", "row", "k", "j"] (defScope s_law_due) _ _ = true by decide +kernel)) (fun _ _ _ _ _ => (dgw_name (i := 6) sc_law_due.nd rfl (by first | exact Or.inl rfl | exact Or.inr rfl))) (fun _ _ _ _ _ => dts_nil) (fun _ _ _ _ _ => (de_new (dn_lc (own := [("j", 7)]) (by rfl) sc_law_due.nd (di_range1 (by rfl) T.b_range (de_var 1)) (blkOk_by (relab (show blkC ["table", "size", "here", "turns", "told", "row", "k", "j"] (relabelS _ (defScope s_law_due)) _ _ = true by decide +kernel))) (fun _ _ _ _ _ => (dgw_name (i := 7) sc_law_due.nd rfl (by first | exact Or.inl rfl | exact Or.inr rfl))) (fun _ _ _ _ _ => dts_nil) (fun _ _ _ _ _ => (de_intOf (by rfl) T.b_int (da_cons (de_eq hr (de_var 7) (de_var 6)) da_nil)))))))
      (ds_cons (ds_for PassesOwn.never (by rfl) (di_range2 (by rfl) T.b_range de_int de_int) (dg_name (i := 3) sc_law_due.nd rfl (by first | exact Or.inl rfl | exact Or.inr rfl)) (ds_cons (ds_setN (i := 4) sc_law_due.nd rfl (by first | exact Or.inl rfl | exact Or.inr rfl) (dn_lst da_nil))
      (ds_cons (ds_for PassesOwn.never (by rfl) (di_row (de_var 2)) (dg_name (i := 5) sc_law_due.nd rfl (by first | exact Or.inl rfl | exact Or.inr rfl)) (ds_one (ds_expr (de_append (de_var 4) (da_cons (de_new (dn_lc (own := [("j", 7)]) (by rfl) sc_law_due.nd (di_range1 (by rfl) T.b_range (de_var 1)) (blkOk_by (show blkC ["table", "size", "here", "turns", "told", "row", "k", "j"] (defScope s_law_due) _ _ = true by decide +kernel)) (fun _ _ _ _ _ => (dgw_name (i := 7) sc_law_due.nd rfl (by first | exact Or.inl rfl | exact Or.inr rfl))) (fun _ _ _ _ _ => dts_nil) (fun _ _ _ _ _ => (de_intOf (by rfl) T.b_int (da_cons (de_gt (de_sumN (by rfl) (by rfl) T.b_sum (dn_lc (own := [("k", 6)]) (by rfl) sc_law_due.nd (di_range1 (by rfl) T.b_range (de_var 1)) (blkOk_by (relab (show blkC ["table", "size", "here", "turns", "told", "row", "k", "j"] (relabelS _ (defScope s_law_due)) _ _ = true by decide +kernel))) (fun _ _ _ _ _ => (dgw_name (i := 6) sc_law_due.nd rfl (by first | exact Or.inl rfl | exact Or.inr rfl))) (fun _ _ _ _ _ => dts_nil) (fun _ _ _ _ _ => (de_mul (de_at (de_var 5) (de_var 6)) (de_at (de_at (de_var 0) (de_var 6)) (de_var 7)))))) de_int) da_nil))))) da_nil)))))
      (ds_cons (ds_set (i := 2) sc_law_due.nd rfl (by first | exact Or.inl rfl | exact Or.inr rfl) (de_var 4))
      (ds_one (ds_if (dt_eq hr (de_minN (by rfl) (by rfl) T.b_min (dn_lc (own := [("row", 5)]) (by rfl) sc_law_due.nd (di_row (de_var 2)) (blkOk_by (show blkC ["table", "size", "here", "turns", "told", "row", "k", "j"] (defScope s_law_due) _ _ = true by decide +kernel)) (fun _ _ _ _ _ => (dgw_name (i := 5) sc_law_due.nd rfl (by first | exact Or.inl rfl | exact Or.inr rfl))) (fun _ _ _ _ _ => dts_nil) (fun _ _ _ _ _ => (de_min1 (by rfl) (by rfl) T.b_min (da_cons (de_var 5) da_nil))))) de_int) (ds_one (ds_ret (de_var 3))) ds_nil))))))
      (ds_one (ds_ret de_non)))))

abbrev s_all_reached : Stmt := topS 1
theorem sc_all_reached : FnScope ["table", "size", "there", "now", "turns", "columns", "row", "number", "k", "column", "a", "b"] ["table"] (defScope s_all_reached) := ⟨rfl, rfl, rfl, by decide +kernel, rfl, by decide +kernel, by decide +kernel⟩
theorem ok_all_reached (T : Top K mg) : Def P w K mg base "all_reached" 1 ["table"] sp_all_reached := by
  refine def_mk (t := t_all_reached) T.a_all_reached sc_all_reached (fun _ _ _ _ _ _ us hl => match us, hl with | [_], _ => rfl) len_all_reached (fun f cdv A outer s H E hr => ?_) rd_all_reached
  exact (ds_cons (ds_set (i := 1) sc_all_reached.nd rfl (by first | exact Or.inl rfl | exact Or.inr rfl) (de_len (by rfl) T.b_len (da_cons (de_var 0) da_nil)))
      (ds_cons (ds_setN (i := 2) sc_all_reached.nd rfl (by first | exact Or.inl rfl | exact Or.inr rfl) (dn_lc (own := [("row", 6)]) (by rfl) sc_all_reached.nd (di_row (de_var 0)) (blkOk_by (show blkC ["table", "size", "there", "now", "turns", "columns", "row", "number", "k", "column", "a", "b"] (defScope s_all_reached) _ _ = true by decide +kernel)) (fun _ _ _ _ _ => (dgw_name (i := 6) sc_all_reached.nd rfl (by first | exact Or.inl rfl | exact Or.inr rfl))) (fun _ _ _ _ _ => dts_nil) (fun _ _ _ _ _ => (de_new (dn_lc (own := [("number", 7)]) (by rfl) sc_all_reached.nd (di_row (de_var 6)) (blkOk_by (relab (show blkC ["table", "size", "there", "now", "turns", "columns", "row", "number", "k", "column", "a", "b"] (relabelS _ (defScope s_all_reached)) _ _ = true by decide +kernel))) (fun _ _ _ _ _ => (dgw_name (i := 7) sc_all_reached.nd rfl (by first | exact Or.inl rfl | exact Or.inr rfl))) (fun _ _ _ _ _ => dts_nil) (fun _ _ _ _ _ => (de_intOf (by rfl) T.b_int (da_cons (de_ne hr (de_var 7) de_int) da_nil))))))))
      (ds_cons (ds_set (i := 3) sc_all_reached.nd rfl (by first | exact Or.inl rfl | exact Or.inr rfl) (de_var 2))
      (ds_cons (ds_for PassesOwn.never (by rfl) (di_range2 (by rfl) T.b_range de_int (de_add (de_mul (de_var 1) (de_var 1)) de_int)) (dg_name (i := 4) sc_all_reached.nd rfl (by first | exact Or.inl rfl | exact Or.inr rfl)) (ds_cons (ds_if (dt_val (de_allN (by rfl) (by rfl) T.b_all (dn_lc (own := [("row", 6)]) (by rfl) sc_all_reached.nd (di_row (de_var 3)) (blkOk_by (show blkC ["table", "size", "there", "now", "turns", "columns", "row", "number", "k", "column", "a", "b"] (defScope s_all_reached) _ _ = true by decide +kernel)) (fun _ _ _ _ _ => (dgw_name (i := 6) sc_all_reached.nd rfl (by first | exact Or.inl rfl | exact Or.inr rfl))) (fun _ _ _ _ _ => dts_nil) (fun _ _ _ _ _ => (de_notin hr de_int (de_var 6)))))) (ds_one (ds_ret (de_var 4))) ds_nil)
      (ds_cons (ds_setN (i := 5) sc_all_reached.nd rfl (by first | exact Or.inl rfl | exact Or.inr rfl) (dn_lc (own := [("k", 8)]) (by rfl) sc_all_reached.nd (di_range1 (by rfl) T.b_range (de_var 1)) (blkOk_by (show blkC ["table", "size", "there", "now", "turns", "columns", "row", "number", "k", "column", "a", "b"] (defScope s_all_reached) _ _ = true by decide +kernel)) (fun _ _ _ _ _ => (dgw_name (i := 8) sc_all_reached.nd rfl (by first | exact Or.inl rfl | exact Or.inr rfl))) (fun _ _ _ _ _ => dts_nil) (fun _ _ _ _ _ => (de_new (dn_lc (own := [("row", 6)]) (by rfl) sc_all_reached.nd (di_row (de_var 2)) (blkOk_by (relab (show blkC ["table", "size", "there", "now", "turns", "columns", "row", "number", "k", "column", "a", "b"] (relabelS _ (defScope s_all_reached)) _ _ = true by decide +kernel))) (fun _ _ _ _ _ => (dgw_name (i := 6) sc_all_reached.nd rfl (by first | exact Or.inl rfl | exact Or.inr rfl))) (fun _ _ _ _ _ => dts_nil) (fun _ _ _ _ _ => (de_at (de_var 6) (de_var 8))))))))
      (ds_one (ds_setLc (i := 3) (own := [("row", 6)]) (by rfl) sc_all_reached.nd rfl rfl (sw_true rfl rfl rfl (by decide +kernel)) (di_row (de_var 3)) (blkOk_by (show blkC ["table", "size", "there", "now", "turns", "columns", "row", "number", "k", "column", "a", "b"] (defScope s_all_reached) _ _ = true by decide +kernel)) (fun _ _ _ _ _ => (dgw_name (i := 6) sc_all_reached.nd rfl (by first | exact Or.inl rfl | exact Or.inr rfl))) (fun _ _ _ _ _ => dts_nil) (fun _ _ _ _ _ => (de_new (dn_lc (own := [("column", 9)]) (by rfl) sc_all_reached.nd (di_row (de_var 5)) (blkOk_by (relab (show blkC ["table", "size", "there", "now", "turns", "columns", "row", "number", "k", "column", "a", "b"] (relabelS _ (defScope s_all_reached)) _ _ = true by decide +kernel))) (fun _ _ _ _ _ => (dgw_name (i := 9) sc_all_reached.nd rfl (by first | exact Or.inl rfl | exact Or.inr rfl))) (fun _ _ _ _ _ => dts_nil) (fun _ _ _ _ _ => (de_intOf (by rfl) T.b_int (da_cons (de_anyI (by rfl) (by rfl) T.b_any (dn_lc (own := [("a", 10), ("b", 11)]) (by rfl) sc_all_reached.nd (di_zip (by rfl) T.b_zip (de_var 6) (de_var 9)) (blkOk_by (relab2 (show blkC ["table", "size", "there", "now", "turns", "columns", "row", "number", "k", "column", "a", "b"] (relabelS _ (relabelS _ (defScope s_all_reached))) _ _ = true by decide +kernel))) (fun _ _ _ _ _ => (dgw_tup (by rfl) (dgws_cons (dgw_name (i := 10) sc_all_reached.nd rfl (by first | exact Or.inl rfl | exact Or.inr rfl)) (dgws_cons (dgw_name (i := 11) sc_all_reached.nd rfl (by first | exact Or.inl rfl | exact Or.inr rfl)) dgws_nil)))) (fun _ _ _ _ _ => dts_nil) (fun _ _ _ _ _ => (de_mul (de_var 10) (de_var 11))))) da_nil)))))))))))
      (ds_one (ds_ret de_non))))))

abbrev s_law_right : Stmt := topS 7
theorem sc_law_right : FnScope ["table", "due", "turn", "found"] ["table"] (defScope s_law_right) := ⟨rfl, rfl, rfl, by decide +kernel, rfl, by decide +kernel, by decide +kernel⟩
theorem ok_law_right (T : Top K mg) (G_law_due : Def P w K mg base "_law_due" 1 ["table"] sp_law_due) (G_all_reached : Def P w K mg base "all_reached" 1 ["table"] sp_all_reached) : Def P w K mg base "_law_right" 2 ["table"] sp_law_right := by
  refine def_mk (t := t_law_right) T.a_law_right sc_law_right (fun _ _ _ _ _ _ us hl => match us, hl with | [_], _ => rfl) len_law_right (fun f cdv A outer s H E hr => ?_) rd_law_right
  exact (ds_cons (ds_set (i := 1) sc_law_right.nd rfl (by first | exact Or.inl rfl | exact Or.inr rfl) (de_callD G_law_due (hr.mono (by decide)) (by rfl) (da_cons (de_var 0) da_nil)))
      (ds_cons (ds_for PassesOwn.never (by rfl) (di_range1 (by rfl) T.b_range de_int) (dg_name (i := 2) sc_law_right.nd rfl (by first | exact Or.inl rfl | exact Or.inr rfl)) (ds_cons (ds_set (i := 3) sc_law_right.nd rfl (by first | exact Or.inl rfl | exact Or.inr rfl) (de_callD G_all_reached (hr.mono (by decide)) (by rfl) (da_cons (de_var 0) da_nil)))
      (ds_one (ds_if (DW.t (dw_or (dt_val (de_isi (by rfl) T.b_isinstance (de_var 3) (by rfl) T.b_bool (by decide +kernel))) (dw_or (dt_ne hr (de_var 3) (de_var 1)) (dw_or1 (dt_ne hr (de_isN (de_var 3)) (de_isN (de_var 1))))))) (ds_one (ds_ret de_bl)) ds_nil))))
      (ds_one (ds_ret de_bl))))

abbrev s_law_table : Stmt := topS 5
theorem sc_law_table : FnScope ["deck", "most", "size", "menu", "rows", "way", "k", "order", "shifted", "row", "j"] ["deck", "most"] (defScope s_law_table) := ⟨rfl, rfl, rfl, by decide +kernel, rfl, by decide +kernel, by decide +kernel⟩
theorem ok_law_table (T : Top K mg) (G_law_take : Def P w K mg base "_law_take" 1 ["deck", "many"] sp_law_take) : Def P w K mg base "_law_table" 2 ["deck", "most"] sp_law_table := by
  refine def_mk (t := t_law_table) T.a_law_table sc_law_table (fun _ _ _ _ _ _ us hl => match us, hl with | [_, _], _ => rfl) len_law_table (fun f cdv A outer s H E hr => ?_) rd_law_table
  exact (ds_cons (ds_set (i := 2) sc_law_table.nd rfl (by first | exact Or.inl rfl | exact Or.inr rfl) (de_add de_int (de_callD G_law_take (hr.mono (by decide)) (by rfl) (da_cons (de_var 0) (da_cons (de_var 1) da_nil)))))
      (ds_cons (ds_set (i := 3) sc_law_table.nd rfl (by first | exact Or.inl rfl | exact Or.inr rfl) (de_atN (dn_lst (da_cons (de_new (dn_lst (da_cons de_int (da_cons de_int da_nil)))) (da_cons (de_new (dn_lst (da_cons de_int (da_cons de_int (da_cons de_int (da_cons de_int da_nil)))))) (da_cons (de_new (dn_lst (da_cons de_int (da_cons de_int (da_cons de_int da_nil))))) (da_cons (de_new (dn_lst (da_cons de_int da_nil))) (da_cons (de_new (dn_lst (da_cons de_int (da_cons de_int (da_cons de_int da_nil))))) (da_cons (de_new (dn_lst (da_cons de_int (da_cons de_int (da_cons de_int (da_cons de_int da_nil)))))) (da_cons (de_new (dn_lst (da_cons de_int (da_cons de_int (da_cons de_int (da_cons de_int da_nil)))))) (da_cons (de_new (dn_lst (da_cons de_int da_nil))) da_nil))))))))) (de_callD G_law_take (hr.mono (by decide)) (by rfl) (da_cons (de_var 0) (da_cons de_int da_nil)))))
      (ds_cons (ds_setN (i := 4) sc_law_table.nd rfl (by first | exact Or.inl rfl | exact Or.inr rfl) (dn_lc (own := [("row", 9)]) (by rfl) sc_law_table.nd (di_range1 (by rfl) T.b_range (de_var 2)) (blkOk_by (show blkC ["deck", "most", "size", "menu", "rows", "way", "k", "order", "shifted", "row", "j"] (defScope s_law_table) _ _ = true by decide +kernel)) (fun _ _ _ _ _ => (dgw_name (i := 9) sc_law_table.nd rfl (by first | exact Or.inl rfl | exact Or.inr rfl))) (fun _ _ _ _ _ => dts_nil) (fun _ _ _ _ _ => (de_new (dn_lc (own := [("k", 6)]) (by rfl) sc_law_table.nd (di_range1 (by rfl) T.b_range (de_var 2)) (blkOk_by (relab (show blkC ["deck", "most", "size", "menu", "rows", "way", "k", "order", "shifted", "row", "j"] (relabelS _ (defScope s_law_table)) _ _ = true by decide +kernel))) (fun _ _ _ _ _ => (dgw_name (i := 6) sc_law_table.nd rfl (by first | exact Or.inl rfl | exact Or.inr rfl))) (fun _ _ _ _ _ => dts_nil) (fun _ _ _ _ _ => (de_at (de_var 3) (de_callD G_law_take (hr.mono (by decide)) (by rfl) (da_cons (de_var 0) (da_cons (de_len (by rfl) T.b_len (da_cons (de_var 3) da_nil)) da_nil))))))))))
      (ds_cons (ds_set (i := 5) sc_law_table.nd rfl (by first | exact Or.inl rfl | exact Or.inr rfl) (de_callD G_law_take (hr.mono (by decide)) (by rfl) (da_cons (de_var 0) (da_cons de_int da_nil))))
      (ds_cons (ds_for PassesOwn.never (by rfl) (di_range1 (by rfl) T.b_range (de_var 2)) (dg_name (i := 6) sc_law_table.nd rfl (by first | exact Or.inl rfl | exact Or.inr rfl)) (ds_cons (ds_if (dt_eq hr (de_var 5) de_int) (ds_one (ds_asg (de_add (de_new (dn_rep (dn_lst (da_cons de_int da_nil)) (de_var 6))) (de_cut (de_at (de_var 4) (de_var 6)) (do_some (de_var 6)) do_none)) (dg_sub (de_var 4) (de_var 6)))) ds_nil)
      (ds_cons (ds_if (dt_eq hr (de_var 5) de_int) (ds_one (ds_asg (de_new (dn_lc (own := [("j", 10)]) (by rfl) sc_law_table.nd (di_range1 (by rfl) T.b_range (de_var 2)) (blkOk_by (show blkC ["deck", "most", "size", "menu", "rows", "way", "k", "order", "shifted", "row", "j"] (defScope s_law_table) _ _ = true by decide +kernel)) (fun _ _ _ _ _ => (dgw_name (i := 10) sc_law_table.nd rfl (by first | exact Or.inl rfl | exact Or.inr rfl))) (fun _ _ _ _ _ => dts_nil) (fun _ _ _ _ _ => (de_intOf (by rfl) T.b_int (da_cons (de_eq hr (de_var 10) (de_mod (de_add (de_var 6) de_int) (de_var 2))) da_nil))))) (dg_sub (de_var 4) (de_var 6)))) ds_nil)
      (ds_one (ds_if (dt_eq hr (de_var 5) de_int) (ds_cons (ds_asg (de_new (dn_lc (own := [("j", 10)]) (by rfl) sc_law_table.nd (di_range1 (by rfl) T.b_range (de_var 2)) (blkOk_by (show blkC ["deck", "most", "size", "menu", "rows", "way", "k", "order", "shifted", "row", "j"] (defScope s_law_table) _ _ = true by decide +kernel)) (fun _ _ _ _ _ => (dgw_name (i := 10) sc_law_table.nd rfl (by first | exact Or.inl rfl | exact Or.inr rfl))) (fun _ _ _ _ _ => dts_nil) (fun _ _ _ _ _ => (de_mul (de_at (de_at (de_var 4) (de_var 6)) (de_var 10)) (de_intOf (by rfl) T.b_int (da_cons (de_gt (de_div (de_var 10) de_int) (de_div (de_var 6) de_int)) da_nil)))))) (dg_sub (de_var 4) (de_var 6)))
      (ds_one (ds_asg de_int (dg_sub (de_at (de_var 4) (de_var 6)) (de_atN (dn_lst (da_cons (de_add (de_mul (de_div (de_var 6) de_int) de_int) (de_mod (de_add (de_var 6) de_int) de_int)) (da_cons (de_mul (de_div (de_var 6) de_int) de_int) da_nil))) (de_intOf (by rfl) T.b_int (da_cons (de_or (de_eq hr (de_mod (de_var 6) de_int) de_int) (de_one (de_eq hr (de_add (de_var 6) de_int) (de_var 2)))) da_nil))))))) ds_nil)))))
      (ds_cons (ds_setN (i := 7) sc_law_table.nd rfl (by first | exact Or.inl rfl | exact Or.inr rfl) (dn_range1 (by rfl) (by rfl) T.b_list (by rfl) T.b_range (de_var 2)))
      (ds_cons (ds_setN (i := 8) sc_law_table.nd rfl (by first | exact Or.inl rfl | exact Or.inr rfl) (dn_lc (own := [("k", 6)]) (by rfl) sc_law_table.nd (di_range1 (by rfl) T.b_range (de_var 2)) (blkOk_by (show blkC ["deck", "most", "size", "menu", "rows", "way", "k", "order", "shifted", "row", "j"] (defScope s_law_table) _ _ = true by decide +kernel)) (fun _ _ _ _ _ => (dgw_name (i := 6) sc_law_table.nd rfl (by first | exact Or.inl rfl | exact Or.inr rfl))) (fun _ _ _ _ _ => dts_nil) (fun _ _ _ _ _ => (de_popAt (de_var 7) (da_cons (de_callD G_law_take (hr.mono (by decide)) (by rfl) (da_cons (de_var 0) (da_cons (de_len (by rfl) T.b_len (da_cons (de_var 7) da_nil)) da_nil))) da_nil)))))
      (ds_one (ds_ret (de_tupN (by rfl) T.b_tuple (dn_lc (own := [("k", 6)]) (by rfl) sc_law_table.nd (di_row (de_var 8)) (blkOk_by (show blkC ["deck", "most", "size", "menu", "rows", "way", "k", "order", "shifted", "row", "j"] (defScope s_law_table) _ _ = true by decide +kernel)) (fun _ _ _ _ _ => (dgw_name (i := 6) sc_law_table.nd rfl (by first | exact Or.inl rfl | exact Or.inr rfl))) (fun _ _ _ _ _ => dts_nil) (fun _ _ _ _ _ => (de_tupN (by rfl) T.b_tuple (dn_lc (own := [("j", 10)]) (by rfl) sc_law_table.nd (di_row (de_var 8)) (blkOk_by (relab (show blkC ["deck", "most", "size", "menu", "rows", "way", "k", "order", "shifted", "row", "j"] (relabelS _ (defScope s_law_table)) _ _ = true by decide +kernel))) (fun _ _ _ _ _ => (dgw_name (i := 10) sc_law_table.nd rfl (by first | exact Or.inl rfl | exact Or.inr rfl))) (fun _ _ _ _ _ => dts_nil) (fun _ _ _ _ _ => (de_at (de_at (de_var 4) (de_var 6)) (de_var 10)))))))))))))))))

abbrev s_law : Stmt := topS 9
theorem sc_law : FnScope ["script", "deck", "most"] ["script"] (defScope s_law) := ⟨rfl, rfl, rfl, by decide +kernel, rfl, by decide +kernel, by decide +kernel⟩
theorem ok_law (T : Top K mg) (G_law_deck : Def P w K mg base "_law_deck" 1 ["script"] sp_law_deck) (G_law_long : Def P w K mg base "_law_long" 2 ["deck"] sp_law_long) (G_law_right : Def P w K mg base "_law_right" 2 ["table"] sp_law_right) (G_law_table : Def P w K mg base "_law_table" 2 ["deck", "most"] sp_law_table) (G_all_reached : Def P w K mg base "all_reached" 1 ["table"] sp_all_reached) {f : Addr} {fd : FuncData} (F : Fun K "law" "law" (topS 9) f fd) : FnOk P w K mg base CX0 3 f fd ["script"] (lSp K sp_law) := by
  refine fn_mk (t := t_law) F sc_law len_law (fun cdv A outer s H E hr => ?_) rd_law
  exact (ds_cons (ds_set (i := 1) sc_law.nd rfl (by first | exact Or.inl rfl | exact Or.inr rfl) (de_callD G_law_deck (hr.mono (by decide)) (by rfl) (da_cons (de_var 0) da_nil)))
      (ds_cons (ds_for PassesOwn.never (by rfl) (di_new (dn_lst (da_cons de_int (da_cons de_int (da_cons de_int (da_cons de_int (da_cons de_int (da_cons de_int (da_cons de_int (da_cons de_int da_nil)))))))))) (dg_name (i := 2) sc_law.nd rfl (by first | exact Or.inl rfl | exact Or.inr rfl)) (ds_one (ds_if (DW.t (dw_or (dt_not (dt_val (de_callD G_law_right (hr.mono (by decide)) (by rfl) (da_cons (de_callD G_law_table (hr.mono (by decide)) (by rfl) (da_cons (de_var 1) (da_cons (de_var 2) da_nil))) da_nil)))) (dw_or1 (dt_not (dt_val (de_callD G_law_right (hr.mono (by decide)) (by rfl) (da_cons (de_callD G_law_long (hr.mono (by decide)) (by rfl) (da_cons (de_var 1) da_nil)) da_nil))))))) (ds_one (ds_ret de_bl)) ds_nil)))
      (ds_one (ds_ret (de_and (de_isN (de_callD G_all_reached (hr.mono (by decide)) (by rfl) (da_cons (de_tup (da_cons (de_tup (da_cons de_int da_nil)) da_nil)) da_nil))) (de_one (de_eq hr (de_callD G_all_reached (hr.mono (by decide)) (by rfl) (da_cons (de_tup (da_cons (de_tup (da_cons de_int da_nil)) da_nil)) da_nil)) de_int)))))))
end
theorem all_mk {l : PySem.W.OpenLaw} {w : World} {K : PySem.W.Frag} {h : Heap} {mg : Str → Option Value} {fa : Addr} (X : K.In h) (G : h.Ns mainGlobals mg) (hfa : mg "law" = some (.ref fa)) {f0 : Addr} {od0 an0 : Option Addr} {sl0 : Array (Option Value)} {oc0 kV0 dc0 pm0 cd0 ct0 : Value} {f1 : Addr} {od1 an1 : Option Addr} {sl1 : Array (Option Value)} {oc1 kV1 dc1 pm1 cd1 ct1 : Value} {f2 : Addr} {od2 an2 : Option Addr} {sl2 : Array (Option Value)} {oc2 kV2 dc2 pm2 cd2 ct2 : Value} {f3 : Addr} {od3 an3 : Option Addr} {sl3 : Array (Option Value)} {oc3 kV3 dc3 pm3 cd3 ct3 : Value} {f4 : Addr} {od4 an4 : Option Addr} {sl4 : Array (Option Value)} {oc4 kV4 dc4 pm4 cd4 ct4 : Value} {f5 : Addr} {od5 an5 : Option Addr} {sl5 : Array (Option Value)} {oc5 kV5 dc5 pm5 cd5 ct5 : Value} {f6 : Addr} {od6 an6 : Option Addr} {sl6 : Array (Option Value)} {oc6 kV6 dc6 pm6 cd6 ct6 : Value} {f7 : Addr} {od7 an7 : Option Addr} {sl7 : Array (Option Value)} {oc7 kV7 dc7 pm7 cd7 ct7 : Value}
    (a0 : PySem.W.nsIn K mainGlobals "_law_deck" = some (some (.ref f0))) (l0 : K.lookup f0 = some ⟨oc0, od0, .func (PySem.W.fnOf "_law_deck" "_law_deck" (defArgs (topS 3)) (defBody (topS 3)) (defScope (topS 3)) .none kV0 dc0 pm0 an0 cd0 ct0), sl0⟩) (c0 : PySem.W.codeIn K cd0 "_law_deck" = true) (k0 : PySem.W.keepIn K (.ref f0) = true)
    (a1 : PySem.W.nsIn K mainGlobals "_law_take" = some (some (.ref f1))) (l1 : K.lookup f1 = some ⟨oc1, od1, .func (PySem.W.fnOf "_law_take" "_law_take" (defArgs (topS 4)) (defBody (topS 4)) (defScope (topS 4)) .none kV1 dc1 pm1 an1 cd1 ct1), sl1⟩) (c1 : PySem.W.codeIn K cd1 "_law_take" = true) (k1 : PySem.W.keepIn K (.ref f1) = true)
    (a2 : PySem.W.nsIn K mainGlobals "_law_long" = some (some (.ref f2))) (l2 : K.lookup f2 = some ⟨oc2, od2, .func (PySem.W.fnOf "_law_long" "_law_long" (defArgs (topS 8)) (defBody (topS 8)) (defScope (topS 8)) .none kV2 dc2 pm2 an2 cd2 ct2), sl2⟩) (c2 : PySem.W.codeIn K cd2 "_law_long" = true) (k2 : PySem.W.keepIn K (.ref f2) = true)
    (a3 : PySem.W.nsIn K mainGlobals "_law_due" = some (some (.ref f3))) (l3 : K.lookup f3 = some ⟨oc3, od3, .func (PySem.W.fnOf "_law_due" "_law_due" (defArgs (topS 6)) (defBody (topS 6)) (defScope (topS 6)) .none kV3 dc3 pm3 an3 cd3 ct3), sl3⟩) (c3 : PySem.W.codeIn K cd3 "_law_due" = true) (k3 : PySem.W.keepIn K (.ref f3) = true)
    (a4 : PySem.W.nsIn K mainGlobals "all_reached" = some (some (.ref f4))) (l4 : K.lookup f4 = some ⟨oc4, od4, .func (PySem.W.fnOf "all_reached" "all_reached" (defArgs (topS 1)) (defBody (topS 1)) (defScope (topS 1)) .none kV4 dc4 pm4 an4 cd4 ct4), sl4⟩) (c4 : PySem.W.codeIn K cd4 "all_reached" = true) (k4 : PySem.W.keepIn K (.ref f4) = true)
    (a5 : PySem.W.nsIn K mainGlobals "_law_right" = some (some (.ref f5))) (l5 : K.lookup f5 = some ⟨oc5, od5, .func (PySem.W.fnOf "_law_right" "_law_right" (defArgs (topS 7)) (defBody (topS 7)) (defScope (topS 7)) .none kV5 dc5 pm5 an5 cd5 ct5), sl5⟩) (c5 : PySem.W.codeIn K cd5 "_law_right" = true) (k5 : PySem.W.keepIn K (.ref f5) = true)
    (a6 : PySem.W.nsIn K mainGlobals "_law_table" = some (some (.ref f6))) (l6 : K.lookup f6 = some ⟨oc6, od6, .func (PySem.W.fnOf "_law_table" "_law_table" (defArgs (topS 5)) (defBody (topS 5)) (defScope (topS 5)) .none kV6 dc6 pm6 an6 cd6 ct6), sl6⟩) (c6 : PySem.W.codeIn K cd6 "_law_table" = true) (k6 : PySem.W.keepIn K (.ref f6) = true)
    (a7 : PySem.W.nsIn K mainGlobals "law" = some (some (.ref f7))) (l7 : K.lookup f7 = some ⟨oc7, od7, .func (PySem.W.fnOf "law" "law" (defArgs (topS 9)) (defBody (topS 9)) (defScope (topS 9)) .none kV7 dc7 pm7 an7 cd7 ct7), sl7⟩) (c7 : PySem.W.codeIn K cd7 "law" = true) (k7 : PySem.W.keepIn K (.ref f7) = true)
    (z_all : PySem.W.nsIn K mainGlobals "all" = some none)
    (z_any : PySem.W.nsIn K mainGlobals "any" = some none)
    (z_bool : PySem.W.nsIn K mainGlobals "bool" = some none)
    (z_int : PySem.W.nsIn K mainGlobals "int" = some none)
    (z_isinstance : PySem.W.nsIn K mainGlobals "isinstance" = some none)
    (z_len : PySem.W.nsIn K mainGlobals "len" = some none)
    (z_list : PySem.W.nsIn K mainGlobals "list" = some none)
    (z_min : PySem.W.nsIn K mainGlobals "min" = some none)
    (z_range : PySem.W.nsIn K mainGlobals "range" = some none)
    (z_sum : PySem.W.nsIn K mainGlobals "sum" = some none)
    (z_tuple : PySem.W.nsIn K mainGlobals "tuple" = some none)
    (z_zip : PySem.W.nsIn K mainGlobals "zip" = some none) :
    ∃ fd : FuncData, (∀ (s : Shared) (v : Value), BindsTo s fd ⟨[v], []⟩ [("script", v)]) ∧ ∀ base : Heap, K.In base → base.Ns mainGlobals mg → FnOk l.prog w K mg base CX0 3 fa fd ["script"] (lSp K sp_law) := by
  have T : Top K mg := ⟨⟨⟨f0, _, fun_mk (st := topS 3) l0 c0 k0, PySem.W.mg_of X G a0⟩⟩, ⟨⟨f1, _, fun_mk (st := topS 4) l1 c1 k1, PySem.W.mg_of X G a1⟩⟩, ⟨⟨f2, _, fun_mk (st := topS 8) l2 c2 k2, PySem.W.mg_of X G a2⟩⟩, ⟨⟨f3, _, fun_mk (st := topS 6) l3 c3 k3, PySem.W.mg_of X G a3⟩⟩, ⟨⟨f4, _, fun_mk (st := topS 1) l4 c4 k4, PySem.W.mg_of X G a4⟩⟩, ⟨⟨f5, _, fun_mk (st := topS 7) l5 c5 k5, PySem.W.mg_of X G a5⟩⟩, ⟨⟨f6, _, fun_mk (st := topS 5) l6 c6 k6, PySem.W.mg_of X G a6⟩⟩, ⟨⟨f7, _, fun_mk (st := topS 9) l7 c7 k7, PySem.W.mg_of X G a7⟩⟩, PySem.W.mg_none_of X G z_all, PySem.W.mg_none_of X G z_any, PySem.W.mg_none_of X G z_bool, PySem.W.mg_none_of X G z_int, PySem.W.mg_none_of X G z_isinstance, PySem.W.mg_none_of X G z_len, PySem.W.mg_none_of X G z_list, PySem.W.mg_none_of X G z_min, PySem.W.mg_none_of X G z_range, PySem.W.mg_none_of X G z_sum, PySem.W.mg_none_of X G z_tuple, PySem.W.mg_none_of X G z_zip⟩
  have e := hfa.symm.trans (PySem.W.mg_of X G a7)
  cases e
  have F := fun_mk (st := topS 9) l7 c7 k7
  refine ⟨PySem.W.fnOf "law" "law" (defArgs (topS 9)) (defBody (topS 9)) (defScope (topS 9)) .none kV7 dc7 pm7 an7 cd7 ct7, fun s v => .of_eq rfl, fun base _ _ => ?_⟩
  have G_law_deck : Def l.prog w K mg base "_law_deck" 1 ["script"] sp_law_deck := ok_law_deck T
  have G_law_take : Def l.prog w K mg base "_law_take" 1 ["deck", "many"] sp_law_take := ok_law_take T
  have G_law_long : Def l.prog w K mg base "_law_long" 2 ["deck"] sp_law_long := ok_law_long T G_law_take
  have G_law_due : Def l.prog w K mg base "_law_due" 1 ["table"] sp_law_due := ok_law_due T
  have G_all_reached : Def l.prog w K mg base "all_reached" 1 ["table"] sp_all_reached := ok_all_reached T
  have G_law_right : Def l.prog w K mg base "_law_right" 2 ["table"] sp_law_right := ok_law_right T G_law_due G_all_reached
  have G_law_table : Def l.prog w K mg base "_law_table" 2 ["deck", "most"] sp_law_table := ok_law_table T G_law_take
  exact ok_law T G_law_deck G_law_long G_law_right G_law_table G_all_reached F
end DL
open PySem PySem.W PyProof.Rows
set_option maxHeartbeats 0 in
theorem PySem.Challenge.cw_bentstretch_k63_all_reached_holds : PySem.Challenge.rw_bentstretch_k63_all_reached.Holds := by
  w_on; o_law; k_head; (case hw => w_witness2)
  k_fill
  refine L2.walk_ofB (l := PySem.Challenge.rw_bentstretch_k63_all_reached) (n := 63) (k := 3) (x := "script") (CX := fun _ => L2.CX0) (sp := fun w => DL.lSp _ DL.sp_law) rfl (by decide) rfl ⟨rfl, by decide, by decide⟩ (fun w h Y => PySem.W.kIn_of Y) ?F (fun w H a ns hl hb hO hS => DL.law_start hl hb hO hS (DL.law_sp ns hl hb)) (fun _ _ _ _ _ h => h)
  case F =>
    intro w mg fa h KX G hmg
    refine' DL.all_mk KX G hmg ?a0 ?l0 ?c0 ?k0 ?a1 ?l1 ?c1 ?k1 ?a2 ?l2 ?c2 ?k2 ?a3 ?l3 ?c3 ?k3 ?a4 ?l4 ?c4 ?k4 ?a5 ?l5 ?c5 ?k5 ?a6 ?l6 ?c6 ?k6 ?a7 ?l7 ?c7 ?k7 ?z_all ?z_any ?z_bool ?z_int ?z_isinstance ?z_len ?z_list ?z_min ?z_range ?z_sum ?z_tuple ?z_zip
    (case a0 => k_is)
    (case l0 => k_is)
    (case c0 => k_is)
    (case k0 => k_is)
    (case a1 => k_is)
    (case l1 => k_is)
    (case c1 => k_is)
    (case k1 => k_is)
    (case a2 => k_is)
    (case l2 => k_is)
    (case c2 => k_is)
    (case k2 => k_is)
    (case a3 => k_is)
    (case l3 => k_is)
    (case c3 => k_is)
    (case k3 => k_is)
    (case a4 => k_is)
    (case l4 => k_is)
    (case c4 => k_is)
    (case k4 => k_is)
    (case a5 => k_is)
    (case l5 => k_is)
    (case c5 => k_is)
    (case k5 => k_is)
    (case a6 => k_is)
    (case l6 => k_is)
    (case c6 => k_is)
    (case k6 => k_is)
    (case a7 => k_is)
    (case l7 => k_is)
    (case c7 => k_is)
    (case k7 => k_is)
    (case z_all => k_is)
    (case z_any => k_is)
    (case z_bool => k_is)
    (case z_int => k_is)
    (case z_isinstance => k_is)
    (case z_len => k_is)
    (case z_list => k_is)
    (case z_min => k_is)
    (case z_range => k_is)
    (case z_sum => k_is)
    (case z_tuple => k_is)
    (case z_zip => k_is)
