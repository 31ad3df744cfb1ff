import PyProof.Rows.All
import Wide.All
import OpenK.AllK
import Wide.FinOn
import PySem.Challenge.RW_bentstretch_k18_whole_rounds
import HandS.ForMost
import HandS.Flow
import HandS.Wide
import HandS.TryOnly
import HandS.More
import HandS.TupAny
import HandS.Walk
import HandS.Zip
import HandS.TupMul
import HandS.IsInst
import HandS.Conv
import HandS.Style
import HandS.Deep
import HandS.TupLe
import KE.GoesEnum
import HandS.Replace
import HandS.Codes
import HandS.Dict
import HandS.Exc
import HandS.ExcOwn
import HandS.ExcField
import HandS.ExcIs
import HandS.ExcValue
import HandS.WordsExc
import KE.KExcIs
import KE.RegKIsAll
import PyProof.SeqIndex
import HandS.ExcInit
import HandS.ClsMeth
import HandS.RaiseMore
import HandS.Flt
import KE.GoesZip
import KE.GoesMore
import KE.KDictZip
import KE.DatumOrd
import HandS.SortRule
import HandS.TupSets
import HandS.Text
import HandS.FStr
import HandS.SetFor
import HandS.Iter
import HandS.Remove
import KE.DataFind
import HandS.ReplaceLit
import HandS.ReplaceDef
import KE.SortData
import KE.SortLaws
import HandS.EndBits
set_option Elab.async false
set_option linter.all false
set_option maxRecDepth 100000
set_option maxHeartbeats 4000000
/-! The data layer: tuples as values, lists by address, over the hand layer's readings. -/
namespace DL
open PySem PySem.Spec PyProof.Rows L2

/-- data: what a value stands for; tuples whole, lists and objects by address -/
inductive D where
  | non | bl (b : Bool) | int (i : Int) | str (x : Str) | tup (ds : List D) | ref (a : Addr) | ty (n : String) | rl (ds : List D)
  /-- a caught exception: its class's name, what it keeps as row -/
  | exc (c : Str) (ds : List D)
  /-- a tuple whose object is known -/
  | ktup (ds : List D)
  /-- a tuple that may be a constant of the module -/
  | ctp (ds : List D)
/-- what stands at an address -/
inductive O where
  | lst (ds : List D)
  | ins (c : Str) (fs : List (Str × D))
  | dK (kvs : List (Key × D))
  | dT (kvs : List (List Key × D))
  | fK (kvs : List (Key × D))
abbrev Mu := Addr → Option O
abbrev DSt := List (Option D)
def mput (m : Mu) (a : Addr) (o : O) : Mu := fun b => if b = a then some o else m b
theorem mput_same {m : Mu} {a : Addr} {o : O} : mput m a o a = some o := by unfold mput; rw [if_pos rfl]
theorem mput_ne {m : Mu} {a b : Addr} {o : O} (h : b ≠ a) : mput m a o b = m b := by unfold mput; rw [if_neg h]
theorem mput_put {m : Mu} {a : Addr} {o u : O} : mput (mput m a o) a u = mput m a u := by
  funext b; unfold mput; split <;> rfl
def Sub (m m' : Mu) : Prop := ∀ a o, m a = some o → m' a = some o
theorem Sub.refl (m : Mu) : Sub m m := fun _ _ h => h
theorem Sub.trans {a b c : Mu} (h : Sub a b) (h' : Sub b c) : Sub a c := fun x o e => h' x o (h x o e)
/-- a list that is only read: locked, or of the written part -/
def RoL (K : PySem.W.Frag) (H : Hp) (a : Addr) (xs : List V) : Prop :=
  (∃ o, H a = some (.frz o (.lst xs))) ∨
    ∃ (o : Obj) (its : Array Value) (n : Nat), K.lookup a = some o ∧ o.cls = .type "list" ∧ o.dict = none ∧ o.data = .seq its n ∧ its.size ≤ sizeLine ∧ Vals xs its.toList
theorem RoL.sq {K : PySem.W.Frag} {H : Hp} {a : Addr} {xs : List V} (h : RoL K H a xs) : SqL K H a xs := by
  rcases h with ⟨o, h⟩ | h
  · exact .inl (.inr ⟨o, h⟩)
  · exact .inr h
theorem RoL.of_only {K : PySem.W.Frag} {H : Hp} {a : Addr} {xs : List V} (ho : Only H) (h : SqL K H a xs) : RoL K H a xs := by
  rcases h with (h | ⟨o, h⟩) | h
  · rcases ho a with z | ⟨o, ys, z⟩
    · rw [h] at z; cases z
    · rw [h] at z; cases z
  · exact .inl ⟨o, h⟩
  · exact .inr h
/-- where a tuple stands -/
def TupAt (K : PySem.W.Frag) (H : Hp) (a : Addr) (xs : List V) : Prop := SqT K H a xs
/-- the class of the text that has this name -/
def clsAt (K : PySem.W.Frag) (c : Str) (C : Addr) : Prop := PySem.W.nsIn K mainGlobals c = some (some (.ref C))
/-- what an exception keeps -/
def XD (H : Hp) (d : Option Addr) (xs : List V) : Prop := (d = none ∧ xs = []) ∨ ∃ dd v, d = some dd ∧ H dd = some (.xd [("row", v)]) ∧ xs = [v]
abbrev lockX (oe : Obj) : HO := .frz oe (.ext fun _ => True)
section
variable (K : PySem.W.Frag) (H : Hp)
mutual
def Rep : D → V → Prop
  | .non, v => v = .non
  | .bl b, v => v = .bl b
  | .int i, v => v = .int i
  | .str x, v => v = .str x
  | .ty n, v => v = .ty n
  | .ref a, v => v = .ref a
  | .tup ds, v => ∃ a xs, v = .ref a ∧ TupAt K H a xs ∧ Reps ds xs
  | .rl ds, v => ∃ a xs, v = .ref a ∧ RoL K H a xs ∧ Reps ds xs
  | .exc c ds, v => ∃ a xs, v = .ref a ∧ (∃ C oe vs, clsAt K c C ∧ H a = some (lockX oe) ∧ oe.cls = .ref C ∧ oe.data = .fields vs ∧ XD H oe.dict xs) ∧ Reps ds xs
  | .ktup ds, v => ∃ a xs, v = .ref a ∧ (∃ o, H a = some (.frz o (.tup xs)) ∧ o.dict = none) ∧ Reps ds xs
  | .ctp ds, v => ∃ a xs, v = .ref a ∧ SqT K H a xs ∧ Reps ds xs
def Reps : List D → List V → Prop
  | [], xs => xs = []
  | d :: ds, xs => ∃ v vs, xs = v :: vs ∧ Rep d v ∧ Reps ds vs
end
/-- pairs by key -/
def RepK {κ : Type} : List (κ × D) → List (κ × V) → Prop
  | [], xs => xs = []
  | (k, d) :: ds, xs => ∃ v vs, xs = (k, v) :: vs ∧ Rep K H d v ∧ RepK ds vs
def RepO (a : Addr) : O → Prop
  | .lst ds => ∃ xs, H a = some (.lst xs) ∧ Reps K H ds xs
  | .ins c fs => ∃ C dx vs, clsAt K c C ∧ H a = some (.ins C dx vs) ∧ RepK K H fs vs
  | .dK kvs => ∃ vs, H a = some (.dK vs) ∧ RepK K H kvs vs
  | .dT kvs => ∃ vs, H a = some (.dT vs) ∧ RepK K H kvs vs
  | .fK kvs => ∃ o vs, H a = some (.frz o (.dK vs)) ∧ RepK K H kvs vs
def RepM (m : Mu) : Prop := ∀ a o, m a = some o → RepO K H a o
def RepS (r : DSt) (s : L2.St) : Prop := r.length = s.length ∧ ∀ (i : Nat) d, r[i]? = some (some d) → ∃ v, s[i]? = some (some v) ∧ Rep K H d v
end
/-- tuples stay, and lists that are only read -/
structure Keep (K : PySem.W.Frag) (H H' : Hp) : Prop where
  t : ∀ a xs, SqT K H a xs → SqT K H' a xs
  l : ∀ a xs, RoL K H a xs → RoL K H' a xs
  n : ∀ a xs, H a = some (.tup xs) → H' a = some (.tup xs)
  f : ∀ a o u, H a = some (.frz o u) → H' a = some (.frz o u)
  x : ∀ a fs, H a = some (.xd fs) → H' a = some (.xd fs)
theorem Keep.refl (K : PySem.W.Frag) (H : Hp) : Keep K H H := ⟨fun _ _ h => h, fun _ _ h => h, fun _ _ h => h, fun _ _ _ h => h, fun _ _ h => h⟩
theorem Keep.trans {K : PySem.W.Frag} {H H1 H2 : Hp} (a : Keep K H H1) (b : Keep K H1 H2) : Keep K H H2 := ⟨fun x xs h => b.t x xs (a.t x xs h), fun x xs h => b.l x xs (a.l x xs h), fun x xs h => b.n x xs (a.n x xs h), fun x o u h => b.f x o u (a.f x o u h), fun x fs h => b.x x fs (a.x x fs h)⟩
theorem TupAt.of {K : PySem.W.Frag} {H : Hp} {a : Addr} {xs : List V} (h : H a = some (.tup xs)) : TupAt K H a xs := SqT.of h
theorem TupAt.sq {K : PySem.W.Frag} {H : Hp} {a : Addr} {xs : List V} (h : TupAt K H a xs) : SqT K H a xs := h
theorem TupAt.keep {K : PySem.W.Frag} {H H' : Hp} (k : Keep K H H') {a : Addr} {xs : List V} (h : TupAt K H a xs) : TupAt K H' a xs := k.t a xs h
theorem XD.keep {K : PySem.W.Frag} {H H' : Hp} (k : Keep K H H') {d : Option Addr} {xs : List V} (h : XD H d xs) : XD H' d xs := by
  rcases h with h | ⟨dd, v, e, q, z⟩
  · exact .inl h
  · exact .inr ⟨dd, v, e, k.x _ _ q, z⟩
section
variable {K : PySem.W.Frag} {H H' H1 H2 : Hp}
mutual
theorem Rep.keep (k : Keep K H H') : ∀ {d : D} {v : V}, Rep K H d v → Rep K H' d v
  | .non, v, h => by unfold Rep at h ⊢; exact h
  | .bl b, v, h => by unfold Rep at h ⊢; exact h
  | .int b, v, h => by unfold Rep at h ⊢; exact h
  | .str b, v, h => by unfold Rep at h ⊢; exact h
  | .ty b, v, h => by unfold Rep at h ⊢; exact h
  | .ref b, v, h => by unfold Rep at h ⊢; exact h
  | .tup ds, v, h => by
    unfold Rep at h ⊢
    obtain ⟨a, xs, e, q, r⟩ := h
    exact ⟨a, xs, e, q.keep k, Reps.keep k r⟩
  | .rl ds, v, h => by
    unfold Rep at h ⊢
    obtain ⟨a, xs, e, q, r⟩ := h
    exact ⟨a, xs, e, k.l a xs q, Reps.keep k r⟩
  | .exc c ds, v, h => by
    unfold Rep at h ⊢
    obtain ⟨a, xs, e, ⟨C, oe, vs, z1, z2, z3, z4, z5⟩, r⟩ := h
    exact ⟨a, xs, e, ⟨C, oe, vs, z1, k.f _ _ _ z2, z3, z4, z5.keep k⟩, Reps.keep k r⟩
  | .ktup ds, v, h => by
    unfold Rep at h ⊢
    obtain ⟨a, xs, e, ⟨o, z1, z2⟩, r⟩ := h
    exact ⟨a, xs, e, ⟨o, k.f _ _ _ z1, z2⟩, Reps.keep k r⟩
  | .ctp ds, v, h => by
    unfold Rep at h ⊢
    obtain ⟨a, xs, e, q, r⟩ := h
    exact ⟨a, xs, e, k.t a xs q, Reps.keep k r⟩
theorem Reps.keep (k : Keep K H H') : ∀ {ds : List D} {vs : List V}, Reps K H ds vs → Reps K H' ds vs
  | [], vs, h => by unfold Reps at h ⊢; exact h
  | d :: ds, vs, h => by
    unfold Reps at h ⊢
    obtain ⟨v, r, e, h1, h2⟩ := h
    exact ⟨v, r, e, Rep.keep k h1, Reps.keep k h2⟩
end
theorem RepK.keep {κ : Type} (k : Keep K H H') : ∀ {ds : List (κ × D)} {vs : List (κ × V)}, RepK K H ds vs → RepK K H' ds vs
  | [], vs, h => by unfold RepK at h ⊢; exact h
  | (c, d) :: ds, vs, h => by
    unfold RepK at h ⊢
    obtain ⟨v, r, e, h1, h2⟩ := h
    exact ⟨v, r, e, h1.keep k, RepK.keep k h2⟩
theorem RepS.keep {r : DSt} {s : L2.St} (k : Keep K H H') (h : RepS K H r s) : RepS K H' r s :=
  ⟨h.1, fun i d e => let ⟨v, e', q⟩ := h.2 i d e; ⟨v, e', q.keep k⟩⟩
theorem RepM.sub {m m' : Mu} (h : RepM K H m') (s : Sub m m') : RepM K H m := fun a o e => h a o (s a o e)

/-- what a piece of code does to the heap: tuples stay, what is not its own stays, what it brings is new -/
structure Step (K : PySem.W.Frag) (H : Hp) (m : Mu) (H' : Hp) (m' : Mu) : Prop where
  keep : Keep K H H'
  fr : ∀ b o, H b = some o → m b = none → H' b = some o
  dom : ∀ b o, m' b = some o → m b = none → H b = none
  th : ∀ b, H' b = none → H b = none
theorem Step.refl (K : PySem.W.Frag) (H : Hp) (m : Mu) : Step K H m H m := ⟨Keep.refl K H, fun _ _ h _ => h, fun b o h n => (by rw [n] at h; cases h), fun _ h => h⟩
theorem Step.trans {m m1 m2 : Mu} (a : Step K H m H1 m1) (b : Step K H1 m1 H2 m2) : Step K H m H2 m2 where
  keep := a.keep.trans b.keep
  fr := fun c o h n => by
    refine b.fr c o (a.fr c o h n) ?_
    cases q : m1 c with
    | none => rfl
    | some u => have := a.dom c u q n; rw [this] at h; cases h
  dom := fun c o h n => by
    cases q : m1 c with
    | some u => exact a.dom c u q n
    | none =>
      have z := b.dom c o h q
      cases e : H c with
      | none => rfl
      | some u => have := a.fr c u e n; rw [this] at z; cases z
  th := fun c h => a.th c (b.th c h)
theorem Step.sub {m m1 m2 : Mu} (a : Step K H m H1 m2) (s : Sub m1 m2) : Step K H m H1 m1 := ⟨a.keep, a.fr, fun b o h n => a.dom b o (s b o h) n, a.th⟩

/-! ### lists of data -/
theorem Reps.length : ∀ {ds : List D} {vs : List V}, Reps K H ds vs → ds.length = vs.length
  | [], vs, h => by unfold Reps at h; subst h; rfl
  | d :: ds, vs, h => by
    unfold Reps at h
    obtain ⟨v, r, e, _, h2⟩ := h
    subst e
    simp [Reps.length h2]
theorem Reps.nil : Reps K H [] [] := by unfold Reps; rfl
theorem Reps.cons {d : D} {v : V} {ds : List D} {vs : List V} (h : Rep K H d v) (t : Reps K H ds vs) : Reps K H (d :: ds) (v :: vs) := by
  unfold Reps; exact ⟨v, vs, rfl, h, t⟩
theorem Reps.get : ∀ {ds : List D} {vs : List V} {i : Nat} {d : D}, Reps K H ds vs → ds[i]? = some d → ∃ v, vs[i]? = some v ∧ Rep K H d v
  | [], _, _, _, _, e => by simp at e
  | c :: ds, vs, 0, d, h, e => by
    unfold Reps at h
    obtain ⟨v, r, q, h1, _⟩ := h
    simp at e; subst e; subst q
    exact ⟨v, rfl, h1⟩
  | c :: ds, vs, i + 1, d, h, e => by
    unfold Reps at h
    obtain ⟨v, r, q, _, h2⟩ := h
    subst q
    obtain ⟨w, e', q⟩ := Reps.get (i := i) h2 (by simpa using e)
    exact ⟨w, by simpa using e', q⟩
theorem Reps.get' : ∀ {ds : List D} {vs : List V} {i : Nat} {v : V}, Reps K H ds vs → vs[i]? = some v → ∃ d, ds[i]? = some d ∧ Rep K H d v
  | [], vs, i, v, h, e => by unfold Reps at h; subst h; simp at e
  | c :: ds, vs, 0, v, h, e => by
    unfold Reps at h
    obtain ⟨w, r, q, h1, _⟩ := h
    subst q; simp at e; subst e
    exact ⟨c, rfl, h1⟩
  | c :: ds, vs, i + 1, v, h, e => by
    unfold Reps at h
    obtain ⟨w, r, q, _, h2⟩ := h
    subst q
    obtain ⟨d, e', q⟩ := Reps.get' (i := i) h2 (by simpa using e)
    exact ⟨d, by simpa using e', q⟩
theorem Reps.append : ∀ {ds es : List D} {vs ws : List V}, Reps K H ds vs → Reps K H es ws → Reps K H (ds ++ es) (vs ++ ws)
  | [], es, vs, ws, h, t => by unfold Reps at h; subst h; exact t
  | d :: ds, es, vs, ws, h, t => by
    unfold Reps at h
    obtain ⟨v, r, q, h1, h2⟩ := h
    subst q
    exact Reps.cons h1 (Reps.append h2 t)
theorem Reps.one {d : D} {v : V} (h : Rep K H d v) : Reps K H [d] [v] := Reps.cons h Reps.nil
theorem Reps.take : ∀ {ds : List D} {vs : List V} (n : Nat), Reps K H ds vs → Reps K H (ds.take n) (vs.take n)
  | ds, vs, 0, h => by simp [Reps]
  | [], vs, n + 1, h => by unfold Reps at h; subst h; exact Reps.nil
  | d :: ds, vs, n + 1, h => by
    unfold Reps at h
    obtain ⟨v, r, q, h1, h2⟩ := h
    subst q
    exact Reps.cons h1 (Reps.take n h2)
theorem Reps.drop : ∀ {ds : List D} {vs : List V} (n : Nat), Reps K H ds vs → Reps K H (ds.drop n) (vs.drop n)
  | ds, vs, 0, h => by simpa using h
  | [], vs, n + 1, h => by unfold Reps at h; subst h; exact Reps.nil
  | d :: ds, vs, n + 1, h => by
    unfold Reps at h
    obtain ⟨v, r, q, h1, h2⟩ := h
    subst q
    simpa using Reps.drop n h2
theorem Reps.set {d : D} {v : V} (q : Rep K H d v) : ∀ {ds : List D} {vs : List V} (i : Nat), Reps K H ds vs → Reps K H (ds.set i d) (vs.set i v)
  | [], vs, i, h => by unfold Reps at h; subst h; simp [Reps]
  | c :: ds, vs, 0, h => by
    unfold Reps at h
    obtain ⟨w, r, e, _, h2⟩ := h
    subst e
    exact Reps.cons q h2
  | c :: ds, vs, i + 1, h => by
    unfold Reps at h
    obtain ⟨w, r, e, h1, h2⟩ := h
    subst e
    exact Reps.cons h1 (Reps.set q i h2)
theorem Reps.reverse : ∀ {ds : List D} {vs : List V}, Reps K H ds vs → Reps K H ds.reverse vs.reverse
  | [], vs, h => by unfold Reps at h; subst h; exact Reps.nil
  | c :: ds, vs, h => by
    unfold Reps at h
    obtain ⟨w, r, e, h1, h2⟩ := h
    subst e
    rw [List.reverse_cons, List.reverse_cons]
    exact (Reps.reverse h2).append (Reps.one h1)
theorem Reps.rep {ds : List D} {vs : List V} (h : Reps K H ds vs) : ∀ k : Nat, Reps K H (List.replicate k ds).flatten (List.replicate k vs).flatten
  | 0 => Reps.nil
  | k + 1 => by
    rw [List.replicate_succ, List.replicate_succ, List.flatten_cons, List.flatten_cons]
    exact h.append (Reps.rep h k)
theorem Reps.ints : ∀ {ns : List Int} {vs : List V}, Reps K H (ns.map D.int) vs → vs = ns.map V.int
  | [], vs, h => by unfold Reps at h; exact h
  | n :: ns, vs, h => by
    simp only [List.map_cons] at h ⊢
    unfold Reps at h
    obtain ⟨w, r, e, h1, h2⟩ := h
    unfold Rep at h1
    subst h1
    rw [e, Reps.ints h2]
theorem Reps.of_ints : ∀ (ns : List Int), Reps K H (ns.map D.int) (ns.map V.int)
  | [] => Reps.nil
  | n :: ns => Reps.cons (by unfold Rep; rfl) (Reps.of_ints ns)
theorem Rep.int_ {i : Int} {v : V} : Rep K H (.int i) v ↔ v = .int i := by unfold Rep; exact Iff.rfl
theorem Rep.bl_ {i : Bool} {v : V} : Rep K H (.bl i) v ↔ v = .bl i := by unfold Rep; exact Iff.rfl
theorem Rep.str_ {i : Str} {v : V} : Rep K H (.str i) v ↔ v = .str i := by unfold Rep; exact Iff.rfl
theorem Rep.ref_ {i : Addr} {v : V} : Rep K H (.ref i) v ↔ v = .ref i := by unfold Rep; exact Iff.rfl
theorem Rep.non_ {v : V} : Rep K H .non v ↔ v = .non := by unfold Rep; exact Iff.rfl
theorem Rep.tup0 {ds : List D} {v : V} : Rep K H (.tup ds) v ↔ ∃ a xs, v = .ref a ∧ TupAt K H a xs ∧ Reps K H ds xs := by rw [Rep]
theorem Rep.ctp_ {ds : List D} {v : V} : Rep K H (.ctp ds) v ↔ ∃ a xs, v = .ref a ∧ SqT K H a xs ∧ Reps K H ds xs := by rw [Rep]
theorem Rep.ktup_ {ds : List D} {v : V} : Rep K H (.ktup ds) v ↔ ∃ a xs, v = .ref a ∧ (∃ o, H a = some (.frz o (.tup xs)) ∧ o.dict = none) ∧ Reps K H ds xs := by rw [Rep]
structure TupI (p q r : Prop) : Prop where
  mp : p → q
  mpr : r → p
theorem Rep.tup_ {ds : List D} {v : V} : TupI (Rep K H (.tup ds) v) (∃ a xs, v = .ref a ∧ SqT K H a xs ∧ Reps K H ds xs) (∃ a xs, v = .ref a ∧ H a = some (.tup xs) ∧ Reps K H ds xs) :=
  ⟨fun h => let ⟨a, xs, e, q, r⟩ := Rep.tup0.mp h; ⟨a, xs, e, q.sq, r⟩, fun ⟨a, xs, e, q, r⟩ => Rep.tup0.mpr ⟨a, xs, e, TupAt.of q, r⟩⟩

/-! ### slots -/
theorem RepS.set {r : DSt} {s : L2.St} {d : D} {v : V} (h : RepS K H r s) (q : Rep K H d v) (i : Nat) : RepS K H (r.set i (some d)) (s.set i (some v)) := by
  refine ⟨by simp [h.1], fun j c e => ?_⟩
  by_cases hj : i = j
  · subst hj
    by_cases hl : i < r.length
    · rw [List.getElem?_set_self hl] at e
      have e' : d = c := by simpa using e
      subst e'
      exact ⟨v, by rw [List.getElem?_set_self (by rw [← h.1]; exact hl)], q⟩
    · rw [List.getElem?_eq_none (by simpa using hl)] at e
      cases e
  · rw [List.getElem?_set_ne hj] at e
    obtain ⟨w, e', q'⟩ := h.2 j c e
    exact ⟨w, by rw [List.getElem?_set_ne hj]; exact e', q'⟩

/-! ### the heap grows, a list is written -/
theorem SqT.new {a p : Addr} {xs : List V} {o : HO} (h : SqT K H a xs) (hp : H p = none) : SqT K (upd H p o) a xs := by
  rcases h with (h | ⟨u, h⟩) | h
  · exact .inl (.inl (by rw [upd_ne (ne_of_none h hp)]; exact h))
  · exact .inl (.inr ⟨u, by rw [upd_ne (ne_of_none h hp)]; exact h⟩)
  · exact .inr h
theorem RoL.new {a p : Addr} {xs : List V} {o : HO} (h : RoL K H a xs) (hp : H p = none) : RoL K (upd H p o) a xs := by
  rcases h with ⟨u, h⟩ | h
  · exact .inl ⟨u, by rw [upd_ne (ne_of_none h hp)]; exact h⟩
  · exact .inr h
theorem Keep.new {p : Addr} {o : HO} (hp : H p = none) : Keep K H (upd H p o) := ⟨fun _ _ h => SqT.new h hp, fun _ _ h => RoL.new h hp, fun _ _ h => by rw [upd_ne (ne_of_none h hp)]; exact h, fun _ _ _ h => by rw [upd_ne (ne_of_none h hp)]; exact h, fun _ _ h => by rw [upd_ne (ne_of_none h hp)]; exact h⟩
theorem SqT.wr {a p : Addr} {xs : List V} {o u : HO} (h : SqT K H a xs) (hp : H p = some u) (hu : Mut (some u)) : SqT K (upd H p o) a xs := by
  rcases h with (h | ⟨w, h⟩) | h
  · exact .inl (.inl (by rw [upd_ne (ne_of h hp (by rintro rfl; exact hu))]; exact h))
  · exact .inl (.inr ⟨w, by rw [upd_ne (ne_of h hp (by rintro rfl; exact hu))]; exact h⟩)
  · exact .inr h
theorem RoL.wr {a p : Addr} {xs : List V} {o u : HO} (h : RoL K H a xs) (hp : H p = some u) (hu : Mut (some u)) : RoL K (upd H p o) a xs := by
  rcases h with ⟨w, h⟩ | h
  · exact .inl ⟨w, by rw [upd_ne (ne_of h hp (by rintro rfl; exact hu))]; exact h⟩
  · exact .inr h
/-- an object that may be written is written -/
theorem Keep.wr {p : Addr} {o u : HO} (hp : H p = some u) (hu : Mut (some u)) : Keep K H (upd H p o) := ⟨fun _ _ h => SqT.wr h hp hu, fun _ _ h => RoL.wr h hp hu, fun _ _ h => by rw [upd_ne (ne_of h hp (by rintro rfl; exact hu))]; exact h, fun _ _ _ h => by rw [upd_ne (ne_of h hp (by rintro rfl; exact hu))]; exact h, fun _ _ h => by rw [upd_ne (ne_of h hp (by rintro rfl; exact hu))]; exact h⟩
theorem RepO.new {p a : Addr} {o : HO} {u : O} (hp : H p = none) (h : RepO K H a u) : RepO K (upd H p o) a u := by
  have k : Keep K H (upd H p o) := Keep.new hp
  cases u with
  | lst ds => obtain ⟨xs, e, r⟩ := h; exact ⟨xs, by rw [upd_ne (ne_of_none e hp)]; exact e, r.keep k⟩
  | ins c fs => obtain ⟨C, dx, vs, hc, e, r⟩ := h; exact ⟨C, dx, vs, hc, by rw [upd_ne (ne_of_none e hp)]; exact e, r.keep k⟩
  | dK fs => obtain ⟨vs, e, r⟩ := h; exact ⟨vs, by rw [upd_ne (ne_of_none e hp)]; exact e, r.keep k⟩
  | dT fs => obtain ⟨vs, e, r⟩ := h; exact ⟨vs, by rw [upd_ne (ne_of_none e hp)]; exact e, r.keep k⟩
  | fK fs => obtain ⟨o', vs, e, r⟩ := h; exact ⟨o', vs, by rw [upd_ne (ne_of_none e hp)]; exact e, r.keep k⟩
theorem RepM.new {m : Mu} {p : Addr} {o : HO} (h : RepM K H m) (hp : H p = none) : RepM K (upd H p o) m := fun a u e => (h a u e).new hp
/-- tracked objects of m stand in H -/
theorem RepM.free {m : Mu} {p : Addr} (h : RepM K H m) (hp : H p = none) : m p = none := by
  cases e : m p with
  | none => rfl
  | some u =>
    have q := h p u e
    cases u with
    | lst ds => obtain ⟨xs, e, r⟩ := q; rw [hp] at e; cases e
    | ins c fs => obtain ⟨C, dx, vs, hc, e, r⟩ := q; rw [hp] at e; cases e
    | dK fs => obtain ⟨vs, e, r⟩ := q; rw [hp] at e; cases e
    | dT fs => obtain ⟨vs, e, r⟩ := q; rw [hp] at e; cases e
    | fK fs => obtain ⟨o', vs, e, r⟩ := q; rw [hp] at e; cases e
/-- a new object: not m's, or m's -/
theorem upd_none {p b : Addr} {o : HO} (h : upd H p o b = none) : H b = none := by
  unfold upd at h; split at h
  · cases h
  · exact h
theorem Step.new {m : Mu} {p : Addr} {o : HO} (hp : H p = none) : Step K H m (upd H p o) m :=
  ⟨Keep.new hp, fun b u h n => by rw [upd_ne (ne_of_none h hp)]; exact h, fun b u h n => (by rw [n] at h; cases h), fun b h => upd_none h⟩
theorem Step.newM {m : Mu} {p : Addr} {o : HO} {u : O} (hp : H p = none) : Step K H m (upd H p o) (mput m p u) :=
  ⟨Keep.new hp, fun b u h n => by rw [upd_ne (ne_of_none h hp)]; exact h, fun b w h n => (by
    by_cases e : b = p
    · rw [e]; exact hp
    · rw [mput_ne e, n] at h; cases h), fun b h => upd_none h⟩
theorem RepM.newM {m : Mu} {p : Addr} {o : HO} {u : O} (h : RepM K H m) (hp : H p = none) (n : RepO K (upd H p o) p u) : RepM K (upd H p o) (mput m p u) := fun a w e => by
  by_cases q : a = p
  · subst q; rw [mput_same] at e; cases e; exact n
  · rw [mput_ne q] at e; exact (h a w e).new hp
theorem RepO.wr {p a : Addr} {o u : HO} {w : O} (hp : H p = some u) (hu : Mut (some u)) (ne : a ≠ p) (h : RepO K H a w) : RepO K (upd H p o) a w := by
  have k : Keep K H (upd H p o) := Keep.wr hp hu
  cases w with
  | lst ds => obtain ⟨xs, e, r⟩ := h; exact ⟨xs, by rw [upd_ne ne]; exact e, r.keep k⟩
  | ins c fs => obtain ⟨C, dx, vs, hc, e, r⟩ := h; exact ⟨C, dx, vs, hc, by rw [upd_ne ne]; exact e, r.keep k⟩
  | dK fs => obtain ⟨vs, e, r⟩ := h; exact ⟨vs, by rw [upd_ne ne]; exact e, r.keep k⟩
  | dT fs => obtain ⟨vs, e, r⟩ := h; exact ⟨vs, by rw [upd_ne ne]; exact e, r.keep k⟩
  | fK fs => obtain ⟨o', vs, e, r⟩ := h; exact ⟨o', vs, by rw [upd_ne ne]; exact e, r.keep k⟩
theorem RepM.wr {m : Mu} {p : Addr} {o u : HO} {w : O} (h : RepM K H m) (hp : H p = some u) (hu : Mut (some u)) (n : RepO K (upd H p o) p w) : RepM K (upd H p o) (mput m p w) := fun a z e => by
  by_cases q : a = p
  · subst q; rw [mput_same] at e; cases e; exact n
  · rw [mput_ne q] at e; exact (h a z e).wr hp hu q
theorem Step.wr {m : Mu} {p : Addr} {o u : HO} {w w' : O} (hp : H p = some u) (hu : Mut (some u)) (hm : m p = some w') : Step K H m (upd H p o) (mput m p w) :=
  ⟨Keep.wr hp hu, fun b z h n => by rw [upd_ne (fun e => by rw [e, hm] at n; cases n)]; exact h, fun b z h n => (by
    by_cases e : b = p
    · rw [e, hm] at n; cases n
    · rw [mput_ne e, n] at h; cases h), fun b h => upd_none h⟩
end
end DL

namespace DL
open PySem PySem.Spec PyProof.Rows L2

abbrev DK := D → Mu → Prop
abbrev DTE := DSt → Mu → DK → Prop
abbrev DTT := DSt → Mu → (Bool → Mu → Prop) → Prop
abbrev DTA := DSt → Mu → (List D → Mu → Prop) → Prop
abbrev DTG := D → DSt → Mu → (DSt → Mu → Prop) → Prop
abbrev DTGs := List D → DSt → Mu → (DSt → Mu → Prop) → Prop
structure DEnds where
  nx : DSt → Mu → Prop
  rt : DK
  bk : DSt → Mu → Prop := fun _ _ => False
  ct : DSt → Mu → Prop := fun _ _ => False
abbrev DTS := DEnds → DSt → Mu → Prop

section
variable (K : PySem.W.Frag)
/-- what is wanted behind an expression -/
def Done (H : Hp) (m : Mu) (R : DK) (Q : VK) : Prop := ∀ d m' v H', R d m' → Step K H m H' m' → RepM K H' m' → Rep K H' d v → Q v H'
def DoneT (H : Hp) (m : Mu) (R : Bool → Mu → Prop) (Q : Bool → Hp → Prop) : Prop := ∀ b m' H', R b m' → Step K H m H' m' → RepM K H' m' → Q b H'
def DoneA (H : Hp) (m : Mu) (R : List D → Mu → Prop) (Q : List V → Hp → Prop) : Prop := ∀ ds m' vs H', R ds m' → Step K H m H' m' → RepM K H' m' → Reps K H' ds vs → Q vs H'
def DoneS (H : Hp) (m : Mu) (R : DSt → Mu → Prop) (Q : L2.St → Hp → Prop) : Prop := ∀ r m' s H', R r m' → Step K H m H' m' → RepM K H' m' → RepS K H' r s → Q s H'
/-- a new list that none else holds -/
def DoneL (H : Hp) (m : Mu) (R : List D → Mu → Prop) (Q : VK) : Prop := ∀ ds m' a xs H', R ds m' → Step K H m H' m' → RepM K H' m' → H' a = some (.lst xs) → m' a = none → H a = none → Reps K H' ds xs → Q (.ref a) H'

def lE (t : DTE) : TE := fun s H Q => ∃ r m R, RepS K H r s ∧ RepM K H m ∧ t r m R ∧ Done K H m R Q
def lT (t : DTT) : TT := fun s H Q => ∃ r m R, RepS K H r s ∧ RepM K H m ∧ t r m R ∧ DoneT K H m R Q
def lA (t : DTA) : TA := fun s H Q => ∃ r m R, RepS K H r s ∧ RepM K H m ∧ t r m R ∧ DoneA K H m R Q
def lL (t : DTA) : TE := fun s H Q => ∃ r m R, RepS K H r s ∧ RepM K H m ∧ t r m R ∧ DoneL K H m R Q
def lG (g : DTG) : TG := fun v s H Q => ∃ d r m R, Rep K H d v ∧ RepS K H r s ∧ RepM K H m ∧ g d r m R ∧ DoneS K H m R Q
def lGs (g : DTGs) : TGs := fun vs s H Q => ∃ ds r m R, Reps K H ds vs ∧ RepS K H r s ∧ RepM K H m ∧ g ds r m R ∧ DoneS K H m R Q
structure EndsOk (H : Hp) (m : Mu) (E : DEnds) (E' : Ends) : Prop where
  nx : DoneS K H m E.nx E'.nx
  rt : Done K H m E.rt E'.rt
  bk : DoneS K H m E.bk E'.bk
  ct : DoneS K H m E.ct E'.ct
def lS (t : DTS) : TS := fun E' s H => ∃ r m E, RepS K H r s ∧ RepM K H m ∧ t E r m ∧ EndsOk K H m E E'
end

section
variable {K : PySem.W.Frag} {H H' H1 : Hp} {m m' m1 : Mu}
theorem Done.step {R : DK} {Q : VK} (h : Done K H m R Q) (s : Step K H m H1 m1) : Done K H1 m1 R Q := fun d m' v H' r s' M q => h d m' v H' r (s.trans s') M q
theorem DoneT.step {R : Bool → Mu → Prop} {Q : Bool → Hp → Prop} (h : DoneT K H m R Q) (s : Step K H m H1 m1) : DoneT K H1 m1 R Q := fun b m' H' r s' M => h b m' H' r (s.trans s') M
theorem DoneS.step {R : DSt → Mu → Prop} {Q : L2.St → Hp → Prop} (h : DoneS K H m R Q) (s : Step K H m H1 m1) : DoneS K H1 m1 R Q := fun d m' v H' r s' M q => h d m' v H' r (s.trans s') M q
theorem EndsOk.step {E : DEnds} {E' : Ends} (h : EndsOk K H m E E') (s : Step K H m H1 m1) : EndsOk K H1 m1 E E' := ⟨h.nx.step s, h.rt.step s, h.bk.step s, h.ct.step s⟩
theorem Done.here {R : DK} {Q : VK} {d : D} {v : V} (h : Done K H m R Q) (r : R d m) (M : RepM K H m) (q : Rep K H d v) : Q v H := h d m v H r (Step.refl K H m) M q
theorem DoneT.here {R : Bool → Mu → Prop} {Q : Bool → Hp → Prop} {b : Bool} (h : DoneT K H m R Q) (r : R b m) (M : RepM K H m) : Q b H := h b m H r (Step.refl K H m) M
theorem DoneA.here {R : List D → Mu → Prop} {Q : List V → Hp → Prop} {d : List D} {v : List V} (h : DoneA K H m R Q) (r : R d m) (M : RepM K H m) (q : Reps K H d v) : Q v H := h d m v H r (Step.refl K H m) M q
theorem DoneS.here {R : DSt → Mu → Prop} {Q : L2.St → Hp → Prop} {d : DSt} {v : L2.St} (h : DoneS K H m R Q) (r : R d m) (M : RepM K H m) (q : RepS K H d v) : Q v H := h d m v H r (Step.refl K H m) M q
end

/-! ### weakening of readings -/
section
variable {X : Cx}
theorem _root_.L2.PE.of {e : Expr} {t t' : TE} (h : PE X e t') (i : ∀ s H Q, t s H Q → t' s H Q) : PE X e t := ⟨fun pins s σ H Q I q => h.run pins s σ H Q I (i _ _ _ q)⟩
theorem _root_.L2.PT.of {e : Expr} {t t' : TT} (h : PT X e t') (i : ∀ s H Q, t s H Q → t' s H Q) : PT X e t := ⟨fun pins s σ H Q I q => h.run pins s σ H Q I (i _ _ _ q)⟩
theorem _root_.L2.PW.of {e : Expr} {t t' : TT} (h : PW X e t') (i : ∀ s H Q, t s H Q → t' s H Q) : PW X e t := ⟨fun wh pins s σ H Q I q => h.run wh pins s σ H Q I (i _ _ _ q)⟩
theorem _root_.L2.PA.of {e : List Expr} {t t' : TA} (h : PA X e t') (i : ∀ s H Q, t s H Q → t' s H Q) : PA X e t := ⟨fun pos pins s σ H Q I q => h.run pos pins s σ H Q I (i _ _ _ q)⟩
theorem _root_.L2.PS.of {e : Stmt} {t t' : TS} (h : PS X e t') (i : ∀ D s H, t D s H → t' D s H) : PS X e t := ⟨fun pins s σ H D I q => h.run pins s σ H D I (i _ _ _ q)⟩
theorem _root_.L2.PSs.of {e : List Stmt} {t t' : TS} (h : PSs X e t') (i : ∀ D s H, t D s H → t' D s H) : PSs X e t := ⟨fun pins s σ H D I q => h.run pins s σ H D I (i _ _ _ q)⟩
theorem _root_.L2.PG.of {e : Expr} {t t' : TG} (h : PG X e t') (i : ∀ v s H Q, t v s H Q → t' v s H Q) : PG X e t := ⟨fun pins s σ H v u Q I r q => h.run pins s σ H v u Q I r (i _ _ _ _ q)⟩
theorem _root_.L2.PGs.of {e : List Expr} {t t' : TGs} (h : PGs X e t') (i : ∀ v s H Q, t v s H Q → t' v s H Q) : PGs X e t := ⟨fun pins s σ H v u Q I r q => h.run pins s σ H v u Q I r (i _ _ _ _ q)⟩
end

structure DE (X : Cx) (e : Expr) (t : DTE) : Prop where
  p : PE X e (lE X.K t)
structure DT (X : Cx) (e : Expr) (t : DTT) : Prop where
  p : PT X e (lT X.K t)
structure DW (X : Cx) (e : Expr) (t : DTT) : Prop where
  p : PW X e (lT X.K t)
structure DA (X : Cx) (e : List Expr) (t : DTA) : Prop where
  p : PA X e (lA X.K t)
/-- an expression that gives a new list -/
structure DN (X : Cx) (e : Expr) (t : DTA) : Prop where
  p : PE X e (lL X.K t)
structure DG (X : Cx) (e : Expr) (t : DTG) : Prop where
  p : PG X e (lG X.K t)
structure DGs (X : Cx) (e : List Expr) (t : DTGs) : Prop where
  p : PGs X e (lGs X.K t)
structure DS (X : Cx) (e : Stmt) (t : DTS) : Prop where
  p : PS X e (lS X.K t)
structure DSs (X : Cx) (e : List Stmt) (t : DTS) : Prop where
  p : PSs X e (lS X.K t)

/-! ### expressions -/
section
variable {X : Cx} {a b c : Expr} {ta tb tc : DTE} {pos : Pos}
def dVar (i : Nat) : DTE := fun r m R => match r[i]? with
  | some (some d) => R d m
  | _ => False
def dC (d : D) : DTE := fun _ m R => R d m
theorem de_var (i : Nat) {x : Str} {pos : Pos} (hN : X.N[i]? = some x := by rfl) (hv : Vis X.env.scope x := by first | exact Or.inl rfl | exact Or.inr (Or.inl rfl) | exact Or.inr (Or.inr rfl)) (hd : (x == ("__debug__" : Str)) = false := by decide)
    (hcd : (x == ("__classdict__" : Str)) = false := by decide) : DE X (.Name x pos) (dVar i) :=
  ⟨(pe_var hN hv hd hcd).of fun s H Q ⟨r, m, R, hs, M, h, q⟩ => by
    unfold dVar at h
    split at h
    · rename_i d e
      obtain ⟨v, e', p⟩ := hs.2 i d e
      exact ⟨v, e', q.here h M p⟩
    · exact h.elim⟩
theorem de_c {e : Expr} {v : V} {d : D} (h : PE X e (tC v)) (hr : ∀ H, Rep X.K H d v) : DE X e (dC d) :=
  ⟨h.of fun s H Q ⟨r, m, R, hs, M, h, q⟩ => q.here h M (hr H)⟩
theorem de_int {i j pos} : DE X (.Constant (.int i) j pos) (dC (.int i)) := de_c pe_int fun _ => Rep.int_.mpr rfl
theorem de_bl {i j pos} : DE X (.Constant (.bool i) j pos) (dC (.bl i)) := de_c pe_bl fun _ => Rep.bl_.mpr rfl
/-- two expressions, then r on values -/
abbrev G2 := D → D → Mu → DK → Prop
def Lift2 (K : PySem.W.Frag) (r : R2) (g : G2) : Prop := ∀ H m x y v w R Q, RepM K H m → Rep K H x v → Rep K H y w → g x y m R → Done K H m R Q → r v w H Q
def d2 (g : G2) (ta tb : DTE) : DTE := fun r m R => ta r m fun x m1 => tb r m1 fun y m2 => g x y m2 R
theorem l2 {r : R2} {g : G2} {K : PySem.W.Frag} (hg : Lift2 K r g) : ∀ s H Q, lE K (d2 g ta tb) s H Q → tOp r (lE K ta) (lE K tb) s H Q := fun s H Q ⟨ρ, m, R, hs, M, h, q⟩ =>
  ⟨ρ, m, _, hs, M, h, fun x m1 v H1 h1 s1 M1 q1 => ⟨ρ, m1, _, hs.keep s1.keep, M1, h1, fun y m2 w H2 h2 s2 M2 q2 => hg H2 m2 x y v w R Q M2 (q1.keep s2.keep) q2 h2 (q.step (s1.trans s2))⟩⟩
theorem de_op {op : Operator} {r : R2} {g : G2} (ho : OpR X (binaryOp op) r) (hg : Lift2 X.K r g) (ha : DE X a ta) (hb : DE X b tb) : DE X (.BinOp a op b pos) (d2 g ta tb) := ⟨(pe_op ho ha.p hb.p).of (l2 hg)⟩
theorem de_cmp {op : CmpOp} {r : R2} {g : G2} (ho : OpR X (compareOp op) r) (hg : Lift2 X.K r g) (ha : DE X a ta) (hb : DE X b tb) (hm : behindInMarks op b = false) : DE X (.Compare a [op] [b] pos) (d2 g ta tb) := ⟨(pe_cmpR ho ha.p hb.p hm).of (l2 hg)⟩
theorem de_ix {r : R2} {g : G2} (ho : IxR X r) (hg : Lift2 X.K r g) (ha : DE X a ta) (hb : DE X b tb) (hs : PlainIx b) : DE X (.Subscript a b pos) (d2 g ta tb) := ⟨(pe_ix ho ha.p hb.p hs).of (l2 hg)⟩
/-- ints -/
def gI (C : Int → Int → Prop) (f : Int → Int → D) : G2 := fun x y m R => match x, y with
  | .int i, .int j => C i j ∧ R (f i j) m
  | _, _ => False
def gI0 (f : Int → Int → D) : G2 := fun x y m R => match x, y with
  | .int i, .int j => R (f i j) m
  | _, _ => False
theorem lift_I {K : PySem.W.Frag} {C : Int → Int → Prop} {f : Int → Int → D} {g : Int → Int → V} (h : ∀ H i j, Rep K H (f i j) (g i j)) : Lift2 K (rI C g) (gI C f) := fun H m x y v w R Q M r1 r2 h1 q => by
  unfold gI at h1
  split at h1
  · rename_i i j
    exact ⟨i, j, Rep.int_.mp r1, Rep.int_.mp r2, h1.1, q.here h1.2 M (h H i j)⟩
  · exact h1.elim
theorem lift_I0 {K : PySem.W.Frag} {f : Int → Int → D} {g : Int → Int → V} (h : ∀ H i j, Rep K H (f i j) (g i j)) : Lift2 K (rI0 g) (gI0 f) := fun H m x y v w R Q M r1 r2 h1 q => by
  unfold gI0 at h1
  split at h1
  · rename_i i j
    exact ⟨i, j, Rep.int_.mp r1, Rep.int_.mp r2, q.here h1 M (h H i j)⟩
  · exact h1.elim
theorem lift_int0 {K : PySem.W.Frag} {f : Int → Int → Int} : Lift2 K (rI0 fun i j => .int (f i j)) (gI0 fun i j => .int (f i j)) := lift_I0 fun _ _ _ => Rep.int_.mpr rfl
theorem lift_intC {K : PySem.W.Frag} {C : Int → Int → Prop} {f : Int → Int → Int} : Lift2 K (rI C fun i j => .int (f i j)) (gI C fun i j => .int (f i j)) := lift_I fun _ _ _ => Rep.int_.mpr rfl
theorem lift_bl0 {K : PySem.W.Frag} {f : Int → Int → Bool} : Lift2 K (rI0 fun i j => .bl (f i j)) (gI0 fun i j => .bl (f i j)) := lift_I0 fun _ _ _ => Rep.bl_.mpr rfl

abbrev dSub := d2 (gI0 fun i j => .int (i - j))
/-- one factor below 2 ^ 64, or both of together less than a million bits -/
def CMulA (i j : Int) : Prop := CMul i j ∨ CMulW i j
theorem CMulA.ok {i j : Int} (h : CMulA i j) : IntMulOk i j := h.elim CMul.ok CMulW.ok
theorem op_mulA : OpR X (binaryOp .Mult) (rI CMulA fun i j => .int (i * j)) := opI fun _ _ _ _ _ _ _ hc q => mul_int q hc.ok
abbrev dMul := d2 (gI CMulA fun i j => .int (i * j))
abbrev dDiv := d2 (gI CDivW fun i j => .int (i / j))
abbrev dMod := d2 (gI (fun _ j => 0 < j) fun i j => .int (i % j))
abbrev dLt := d2 (gI0 fun i j => .bl (decide (i < j)))
abbrev dGt := d2 (gI0 fun i j => .bl (decide (j < i)))
abbrev dGe := d2 (gI0 fun i j => .bl (decide (j ≤ i)))
theorem de_sub (ha : DE X a ta) (hb : DE X b tb) : DE X (.BinOp a .Sub b pos) (dSub ta tb) := de_op op_sub lift_int0 ha hb
theorem de_mul (ha : DE X a ta) (hb : DE X b tb) : DE X (.BinOp a .Mult b pos) (dMul ta tb) := de_op op_mulA lift_intC ha hb
theorem de_div (ha : DE X a ta) (hb : DE X b tb) : DE X (.BinOp a .FloorDiv b pos) (dDiv ta tb) := de_op op_fdivW lift_intC ha hb
theorem de_mod (ha : DE X a ta) (hb : DE X b tb) : DE X (.BinOp a .Mod b pos) (dMod ta tb) := de_op op_mod lift_intC ha hb
theorem de_lt (ha : DE X a ta) (hb : DE X b tb) : DE X (.Compare a [.Lt] [b] pos) (dLt ta tb) := de_cmp op_lt lift_bl0 ha hb (nomark _)
theorem de_gt (ha : DE X a ta) (hb : DE X b tb) : DE X (.Compare a [.Gt] [b] pos) (dGt ta tb) := de_cmp op_gt lift_bl0 ha hb (nomark _)
theorem de_ge (ha : DE X a ta) (hb : DE X b tb) : DE X (.Compare a [.GtE] [b] pos) (dGe ta tb) := de_cmp op_ge lift_bl0 ha hb (nomark _)
theorem Step.put {K : PySem.W.Frag} {H H' : Hp} {m m' : Mu} {a : Addr} {o : O} (s : Step K H m H' m') (ha : H a = none) : Step K H m H' (mput m' a o) :=
  ⟨s.keep, s.fr, fun b u h n => (by
    by_cases e : b = a
    · rw [e]; exact ha
    · rw [mput_ne e] at h; exact s.dom b u h n), s.th⟩
theorem RepM.put {K : PySem.W.Frag} {H : Hp} {m : Mu} {a : Addr} {o : O} (M : RepM K H m) (h : RepO K H a o) : RepM K H (mput m a o) := fun b u e => by
  by_cases q : b = a
  · subst q; rw [mput_same] at e; cases e; exact h
  · rw [mput_ne q] at e; exact M b u e
/-- + of ints, of texts; lists and tuples have rules of their own -/
def gAdd : G2 := fun x y m R => match x, y with
  | .int i, .int j => R (.int (i + j)) m
  | .str i, .str j => i.length + j.length ≤ sizeLine ∧ R (.str (i ++ j)) m
  | .tup i, .tup j => i.length + j.length ≤ sizeLine ∧ R (.tup (i ++ j)) m
  | .ref a, .ref b => match m a with
    | some (.lst i) => match m b with
      | some (.lst j) => i.length + j.length ≤ sizeLine ∧ ∀ c, m c = none → R (.ref c) (mput m c (.lst (i ++ j)))
      | _ => False
    | _ => False
  | _, _ => False
theorem op_addAny : OpR X (binaryOp .Add) (fun x y H Q => (rI0 (fun i j => .int (i + j)) x y H Q) ∨ (∃ i j, x = .str i ∧ y = .str j ∧ i.length + j.length ≤ sizeLine ∧ Q (.str (i ++ j)) H) ∨ rCatA X.K x y H Q ∨ rCat x y H Q) := op_add.or (op_add_str.or (op_catA.or op_cat))
theorem lift_add : Lift2 X.K (fun x y H Q => (rI0 (fun i j => .int (i + j)) x y H Q) ∨ (∃ i j, x = .str i ∧ y = .str j ∧ i.length + j.length ≤ sizeLine ∧ Q (.str (i ++ j)) H) ∨ rCatA X.K x y H Q ∨ rCat x y H Q) gAdd := fun H m x y v w R Q M r1 r2 h1 q => by
  unfold gAdd at h1
  split at h1
  · rename_i i j
    exact .inl ⟨i, j, Rep.int_.mp r1, Rep.int_.mp r2, q.here h1 M (Rep.int_.mpr rfl)⟩
  · rename_i i j
    exact .inr (.inl ⟨i, j, Rep.str_.mp r1, Rep.str_.mp r2, h1.1, q.here h1.2 M (Rep.str_.mpr rfl)⟩)
  · rename_i i j
    obtain ⟨p, xs, rfl, hp, rp⟩ := Rep.tup_.mp r1
    obtain ⟨z, ys, rfl, hz, rz⟩ := Rep.tup_.mp r2
    obtain ⟨hl, h1⟩ := h1
    have l1 := rp.length
    have l2 := rz.length
    refine .inr (.inr (.inl ⟨p, z, xs, ys, rfl, rfl, hp, hz, by omega, fun e => ?_, fun ne e => ?_, fun ne ne2 u hu => q _ _ _ _ h1 (Step.new hu) (M.new hu) (Rep.tup_.mpr ⟨u, _, rfl, upd_same, (rp.append rz).keep (Keep.new hu)⟩)⟩))
    · rw [e] at l1
      have e2 : i = [] := List.length_eq_zero_iff.mp l1
      rw [e2, List.nil_append] at h1
      exact q.here h1 M r2
    · rw [e] at l2
      have e2 : j = [] := List.length_eq_zero_iff.mp l2
      rw [e2, List.append_nil] at h1
      exact q.here h1 M r1
  · rename_i a b
    split at h1
    · rename_i i ei
      split at h1
      · rename_i j ej
        obtain rfl := Rep.ref_.mp r1
        obtain rfl := Rep.ref_.mp r2
        obtain ⟨xs, hx, rx⟩ := M _ _ ei
        obtain ⟨ys, hy, ry⟩ := M _ _ ej
        refine .inr (.inr (.inr ⟨a, b, xs, ys, rfl, rfl, hx, hy, by rw [← rx.length, ← ry.length]; exact h1.1, fun p hp => ?_⟩))
        exact q _ _ _ _ (h1.2 p (M.free hp)) ((Step.new hp).put hp) ((M.new hp).put ⟨_, upd_same, (rx.append ry).keep (Keep.new hp)⟩) (Rep.ref_.mpr rfl)
      · exact h1.elim
    · exact h1.elim
  · exact h1.elim
abbrev dPlus := d2 gAdd
theorem de_add (ha : DE X a ta) (hb : DE X b tb) : DE X (.BinOp a .Add b pos) (dPlus ta tb) := de_op op_addAny lift_add ha hb

/-- one expression, then r on its value -/
def d1 (g : D → Mu → DK → Prop) (ta : DTE) : DTE := fun r m R => ta r m fun x m1 => g x m1 R
def Lift1 (K : PySem.W.Frag) (r : V → Hp → VK → Prop) (g : D → Mu → DK → Prop) : Prop := ∀ H m x v R Q, RepM K H m → Rep K H x v → g x m R → Done K H m R Q → r v H Q
theorem de_un {op : UnaryOp} {r : V → Hp → VK → Prop} {g : D → Mu → DK → Prop} (ho : UnR X (unaryOp op) r) (hg : Lift1 X.K r g) (ha : DE X a ta) : DE X (.UnaryOp op a pos) (d1 g ta) :=
  ⟨(pe_un ho ha.p).of fun s H Q ⟨ρ, m, R, hs, M, h, q⟩ => ⟨ρ, m, _, hs, M, h, fun x m1 v H1 h1 s1 M1 q1 => hg H1 m1 x v R Q M1 q1 h1 (q.step s1)⟩⟩
def gNeg : D → Mu → DK → Prop := fun x m R => match x with
  | .int i => R (.int (-i)) m
  | _ => False
abbrev dNeg := d1 gNeg
theorem de_neg (ha : DE X a ta) : DE X (.UnaryOp .USub a pos) (dNeg ta) := de_un un_neg (fun H m x v R Q M r h q => by
  unfold gNeg at h
  split at h
  · rename_i i
    exact ⟨i, Rep.int_.mp r, q.here h M (Rep.int_.mpr rfl)⟩
  · exact h.elim) ha

/-! ### items -/
/-- what may be read as a row of items -/
def seqOf (m : Mu) : D → Option (List D)
  | .tup ds => some ds
  | .rl ds => some ds
  | .ref a => match m a with
    | some (.lst ds) => some ds
    | _ => none
  | _ => none
theorem seqOf_rep {K : PySem.W.Frag} {H : Hp} {m : Mu} {d : D} {v : V} {ds : List D} (M : RepM K H m) (r : Rep K H d v) (h : seqOf m d = some ds) :
    ∃ p xs, v = .ref p ∧ (SqL K H p xs ∨ SqT K H p xs) ∧ Reps K H ds xs := by
  unfold seqOf at h
  split at h
  · cases h
    obtain ⟨p, xs, e, q, r⟩ := Rep.tup_.mp r
    exact ⟨p, xs, e, .inr q, r⟩
  · cases h
    unfold Rep at r
    obtain ⟨p, xs, e, q, r⟩ := r
    exact ⟨p, xs, e, .inl q.sq, r⟩
  · rename_i a
    split at h
    · cases h
      rename_i e
      obtain ⟨xs, hx, rx⟩ := M a _ e
      exact ⟨a, xs, Rep.ref_.mp r, .inl (SqL.of hx), rx⟩
    · cases h
  · cases h
theorem seqOf_repN {K : PySem.W.Frag} {H : Hp} {m : Mu} {d : D} {v : V} {ds : List D} (M : RepM K H m) (r : Rep K H d v) (h : seqOf m d = some ds) :
    ∃ p xs, v = .ref p ∧ (SqL K H p xs ∨ TupAt K H p xs) ∧ Reps K H ds xs := by
  unfold seqOf at h
  split at h
  · cases h
    obtain ⟨p, xs, e, q, r⟩ := Rep.tup0.mp r
    exact ⟨p, xs, e, .inr q, r⟩
  · cases h
    unfold Rep at r
    obtain ⟨p, xs, e, q, r⟩ := r
    exact ⟨p, xs, e, .inl q.sq, r⟩
  · rename_i a
    split at h
    · cases h
      rename_i e
      obtain ⟨xs, hx, rx⟩ := M a _ e
      exact ⟨a, xs, Rep.ref_.mp r, .inl (SqL.of hx), rx⟩
    · cases h
  · cases h
theorem atI_rep {K : PySem.W.Frag} {H : Hp} {ds : List D} {xs : List V} {i : Int} {d : D} (r : Reps K H ds xs) (h : atI ds i = some d) : ∃ v, atI xs i = some v ∧ Rep K H d v := by
  unfold atI at h ⊢
  rw [r.length] at h
  cases e : ixN xs.length i with
  | none => rw [e] at h; cases h
  | some j =>
    rw [e] at h
    exact r.get h
def gIx : G2 := fun x y m R => match y with
  | .int i => match x with
    | .str z => z.length ≤ sizeLine ∧ (match atI z.cps.toList i with
      | some c => R (.str ⟨#[c]⟩) m
      | none => False)
    | .ctp ds => (match atI ds i with
      | some d => R d m
      | none => False)
    | x => match seqOf m x with
      | some ds => match atI ds i with
        | some d => R d m
        | none => False
      | none => False
  | _ => False
theorem lift_ix {K : PySem.W.Frag} : Lift2 K (rIx K) gIx := fun H m x y v w R Q M r1 r2 h q => by
  unfold gIx at h
  split at h
  · rename_i i
    obtain rfl := Rep.int_.mp r2
    split at h
    · rename_i z
      obtain ⟨hl, h⟩ := h
      split at h
      · rename_i c e
        exact .inr (.inr ⟨z, i, c, Rep.str_.mp r1, rfl, hl, e, q.here h M (Rep.str_.mpr rfl)⟩)
      · exact h.elim
    · rename_i ds
      split at h
      · rename_i d e2
        obtain ⟨p, xs, rfl, hs, rx⟩ := Rep.ctp_.mp r1
        obtain ⟨u, e3, ru⟩ := atI_rep rx e2
        exact .inr (.inl ⟨p, xs, i, u, rfl, rfl, hs, e3, q.here h M ru⟩)
      · exact h.elim
    · split at h
      · rename_i ds e
        split at h
        · rename_i d e2
          obtain ⟨p, xs, rfl, hs, rx⟩ := seqOf_rep M r1 e
          obtain ⟨u, e3, ru⟩ := atI_rep rx e2
          rcases hs with hs | hs
          · exact .inl ⟨p, xs, i, u, rfl, rfl, hs, e3, q.here h M ru⟩
          · exact .inr (.inl ⟨p, xs, i, u, rfl, rfl, hs, e3, q.here h M ru⟩)
        · exact h.elim
      · exact h.elim
  · exact h.elim
abbrev dIx := d2 gIx
theorem de_at (ha : DE X a ta) (hb : DE X b tb) (hs : PlainIx b := by exact fun _ _ => rfl) : DE X (.Subscript a b pos) (dIx ta tb) := de_ix ix_seq lift_ix ha hb hs
end

/-! ### arguments, displays -/
section
variable {X : Cx} {e : Expr} {es : List Expr} {te : DTE} {t : DTA} {pos : Pos}
def aNil : DTA := fun _ m R => R [] m
def aCons (ta : DTE) (tr : DTA) : DTA := fun r m R => ta r m fun x m1 => tr r m1 fun xs m2 => R (x :: xs) m2
theorem da_nil : DA X [] aNil := ⟨pa_nil.of fun s H Q ⟨r, m, R, hs, M, h, q⟩ => q.here h M Reps.nil⟩
theorem da_cons (ha : DE X e te) (hr : DA X es t) (hs : starEach (e :: es) X.env = (false, eval e X.env) :: starEach es X.env := by rfl) : DA X (e :: es) (aCons te t) :=
  ⟨(pa_cons ha.p hr.p hs).of fun s H Q ⟨r, m, R, hs, M, h, q⟩ => ⟨r, m, _, hs, M, h, fun x m1 v H1 h1 s1 M1 q1 => ⟨r, m1, _, hs.keep s1.keep, M1, h1, fun xs m2 vs H2 h2 s2 M2 q2 =>
    q _ _ _ _ h2 (s1.trans s2) M2 (Reps.cons (q1.keep s2.keep) q2)⟩⟩⟩
def dTup (t : DTA) : DTE := fun r m R => t r m fun xs m1 => xs.length ≤ sizeLine ∧ R (.tup xs) m1
theorem de_tup {k} (h : DA X es t) : DE X (.Tuple es k pos) (dTup t) :=
  ⟨(pe_tup h.p).of fun s H Q ⟨r, m, R, hs, M, h, q⟩ => ⟨r, m, _, hs, M, h, fun xs m1 vs H1 h1 s1 M1 q1 => ⟨by rw [← q1.length]; exact h1.1, fun p hp =>
    q _ _ _ _ h1.2 (s1.trans (Step.new hp)) (M1.new hp) (Rep.tup_.mpr ⟨p, vs, rfl, upd_same, q1.keep (Keep.new hp)⟩)⟩⟩⟩
/-- a new list -/
def nLst (t : DTA) : DTA := fun r m R => t r m fun xs m1 => xs.length ≤ sizeLine ∧ R xs m1
theorem dn_lst (h : DA X es t) : DN X (.List es pos) (nLst t) :=
  ⟨(pe_lst h.p).of fun s H Q ⟨r, m, R, hs, M, h, q⟩ => ⟨r, m, _, hs, M, h, fun xs m1 vs H1 h1 s1 M1 q1 => ⟨by rw [← q1.length]; exact h1.1, fun p hp =>
    q _ _ p _ _ h1.2 (s1.trans (Step.new hp)) (M1.new hp) upd_same (M1.free hp) (s1.th p hp) (q1.keep (Keep.new hp))⟩⟩⟩
/-- a new list as a value: at a new address -/
def dNew (t : DTA) : DTE := fun r m R => t r m fun xs m1 => ∀ a, m1 a = none → R (.ref a) (mput m1 a (.lst xs))
theorem de_new (h : DN X e t) : DE X e (dNew t) :=
  ⟨h.p.of fun s H Q ⟨r, m, R, hs, M, h, q⟩ => ⟨r, m, _, hs, M, h, fun ds m' a xs H' h1 s1 M1 ha hm hH rx => q _ _ _ _ (h1 a hm) (s1.put hH) (M1.put ⟨xs, ha, rx⟩) (Rep.ref_.mpr rfl)⟩⟩
end

/-! ### tests -/
section
variable {X : Cx} {a b e : Expr} {rest : List Expr} {te ta tb : DTE} {tA tB : DTT} {pos : Pos}
/-- a value's truth, where it is a bool -/
def tBool (t : DTE) : DTT := fun r m R => t r m fun x m1 => match x with
  | .bl c => R c m1
  | _ => False
theorem dt_val (h : DE X e te) (he : ∀ whole, isTrue e X.env whole = (do let v ← whole; standAt e.pos; holding [v] (truthy v)) := by intro _; rfl) : DT X e (tBool te) :=
  ⟨(pt_val h.p he).of fun s H Q ⟨r, m, R, hs, M, h, q⟩ => ⟨r, m, _, hs, M, h, fun x m1 v H1 h1 s1 M1 q1 => by
    split at h1
    · rename_i c
      exact ⟨c, Rep.bl_.mp q1, q _ _ _ h1 s1 M1⟩
    · exact h1.elim⟩⟩
theorem dt_cmp {op : CmpOp} {r : R2} {g : G2} (ho : OpR X (compareOp op) r) (hg : Lift2 X.K r g) (ha : DE X a ta) (hb : DE X b tb) (hm : behindInMarks op b = false) : DT X (.Compare a [op] [b] pos) (tBool (d2 g ta tb)) :=
  ⟨(pt_cmpR ho ha.p hb.p hm).of fun s H Q ⟨ρ, m, R, hs, M, h, q⟩ => by
    refine l2 (K := X.K) hg s H _ ⟨ρ, m, _, hs, M, h, fun x m1 v H1 h1 s1 M1 q1 => ?_⟩
    split at h1
    · rename_i c
      exact ⟨c, Rep.bl_.mp q1, q _ _ _ h1 s1 M1⟩
    · exact h1.elim⟩
theorem dt_lt (ha : DE X a ta) (hb : DE X b tb) : DT X (.Compare a [.Lt] [b] pos) (tBool (dLt ta tb)) := dt_cmp op_lt lift_bl0 ha hb (nomark _)
theorem dt_gt (ha : DE X a ta) (hb : DE X b tb) : DT X (.Compare a [.Gt] [b] pos) (tBool (dGt ta tb)) := dt_cmp op_gt lift_bl0 ha hb (nomark _)
theorem dt_ge (ha : DE X a ta) (hb : DE X b tb) : DT X (.Compare a [.GtE] [b] pos) (tBool (dGe ta tb)) := dt_cmp op_ge lift_bl0 ha hb (nomark _)
def tAnd' (t u : DTT) : DTT := fun r m R => t r m fun c m1 => if c = true then u r m1 R else R false m1
def tOr' (t u : DTT) : DTT := fun r m R => t r m fun c m1 => if c = true then R true m1 else u r m1 R
def tNot' (t : DTT) : DTT := fun r m R => t r m fun c m1 => R (!c) m1
theorem dw_and1 (ha : DT X a tA) : DW X (.BoolOp .And [a] pos) tA := ⟨pw_and1 ha.p⟩
theorem dw_or1 (ha : DT X a tA) : DW X (.BoolOp .Or [a] pos) tA := ⟨pw_or1 ha.p⟩
theorem dw_and (ha : DT X a tA) (hb : DW X (.BoolOp .And (b :: rest) pos) tB) : DW X (.BoolOp .And (a :: b :: rest) pos) (tAnd' tA tB) :=
  ⟨(pw_and ha.p hb.p).of fun s H Q ⟨r, m, R, hs, M, h, q⟩ => ⟨r, m, _, hs, M, h, fun c m1 H1 h1 s1 M1 => by
    cases c with
    | true => exact ⟨r, m1, R, hs.keep s1.keep, M1, h1, q.step s1⟩
    | false => exact q _ _ _ h1 s1 M1⟩⟩
theorem dw_or (ha : DT X a tA) (hb : DW X (.BoolOp .Or (b :: rest) pos) tB) : DW X (.BoolOp .Or (a :: b :: rest) pos) (tOr' tA tB) :=
  ⟨(pw_or ha.p hb.p).of fun s H Q ⟨r, m, R, hs, M, h, q⟩ => ⟨r, m, _, hs, M, h, fun c m1 H1 h1 s1 M1 => by
    cases c with
    | false => exact ⟨r, m1, R, hs.keep s1.keep, M1, h1, q.step s1⟩
    | true => exact q _ _ _ h1 s1 M1⟩⟩
theorem DW.t (h : DW X a tA) : DT X a tA := ⟨h.p.pt⟩
theorem dt_not (ha : DT X a tA) : DT X (.UnaryOp .Not a pos) (tNot' tA) :=
  ⟨(pt_not ha.p).of fun s H Q ⟨r, m, R, hs, M, h, q⟩ => ⟨r, m, _, hs, M, h, fun c m1 H1 h1 s1 M1 => q _ _ _ h1 s1 M1⟩⟩
/-- bools as values -/
def dAndV (ta tb : DTE) : DTE := fun r m R => ta r m fun x m1 => match x with
  | .bl c => if c = true then tb r m1 R else R (.bl false) m1
  | _ => False
theorem de_one {op} (h : DE X a ta) : DE X (.BoolOp op [a] pos) ta := ⟨pe_one h.p⟩
theorem de_and (ha : DE X a ta) (hb : DE X (.BoolOp .And (b :: rest) pos) tb) : DE X (.BoolOp .And (a :: b :: rest) pos) (dAndV ta tb) :=
  ⟨(pe_and ha.p hb.p).of fun s H Q ⟨r, m, R, hs, M, h, q⟩ => ⟨r, m, _, hs, M, h, fun x m1 v H1 h1 s1 M1 q1 => by
    split at h1
    · rename_i c
      refine ⟨c, Rep.bl_.mp q1, ?_⟩
      cases c with
      | true => exact ⟨r, m1, R, hs.keep s1.keep, M1, h1, q.step s1⟩
      | false => exact q _ _ _ _ h1 s1 M1 (Rep.bl_.mpr rfl)
    · exact h1.elim⟩⟩
end

/-! ### statements -/
section
variable {X : Cx} {st : Stmt} {rest : List Stmt} {t u : DTS} {e : Expr} {te : DTE} {pos : Pos}
def sNext : DTS := fun E r m => E.nx r m
def sSeq (t u : DTS) : DTS := fun E r m => t { E with nx := u E } r m
theorem ds_nil : DSs X [] sNext := ⟨pss_nil.of fun E' s H ⟨r, m, E, hs, M, h, q⟩ => q.nx.here h M hs⟩
theorem ds_cons (h1 : DS X st t) (h2 : DSs X rest u) : DSs X (st :: rest) (sSeq t u) :=
  ⟨(pss_cons h1.p h2.p).of fun E' s H ⟨r, m, E, hs, M, h, q⟩ => ⟨r, m, { E with nx := u E }, hs, M, h,
    ⟨fun r1 m1 s1 H1 h1 st1 M1 q1 => ⟨r1, m1, E, q1, M1, h1, q.step st1⟩, q.rt, q.bk, q.ct⟩⟩⟩
theorem ds_one (h1 : DS X st t) : DSs X [st] t := ⟨pss_one h1.p⟩
def sDrop (te : DTE) : DTS := fun E r m => te r m fun _ m1 => E.nx r m1
theorem ds_expr (he : DE X e te) (hs : swapsWith e none pos.line X.env = pure false := by rfl) : DS X (.Expr e pos) (sDrop te) :=
  ⟨(ps_expr he.p hs).of fun E' s H ⟨r, m, E, hs, M, h, q⟩ => ⟨r, m, _, hs, M, h, fun x m1 v H1 h1 s1 M1 q1 => q.nx _ _ _ _ h1 s1 M1 (hs.keep s1.keep)⟩⟩
def sRet (te : DTE) : DTS := fun E r m => te r m E.rt
theorem ds_ret (he : DE X e te) : DS X (.Return (some e) pos) (sRet te) :=
  ⟨(ps_ret he.p).of fun E' s H ⟨r, m, E, hs, M, h, q⟩ => ⟨r, m, _, hs, M, h, q.rt⟩⟩
def sIf (c : DTT) (t u : DTS) : DTS := fun E r m => c r m fun b m1 => if b = true then t E r m1 else u E r m1
theorem ds_if {c : Expr} {a b : List Stmt} {tc : DTT} (hc : DT X c tc) (ha : DSs X a t) (hb : DSs X b u) : DS X (.If c a b pos) (sIf tc t u) :=
  ⟨(ps_if hc.p ha.p hb.p).of fun E' s H ⟨r, m, E, hs, M, h, q⟩ => ⟨r, m, _, hs, M, h, fun c m1 H1 h1 s1 M1 => by
    cases c with
    | true => exact ⟨r, m1, E, hs.keep s1.keep, M1, h1, q.step s1⟩
    | false => exact ⟨r, m1, E, hs.keep s1.keep, M1, h1, q.step s1⟩⟩⟩
def sNever : DTS := fun _ _ _ => False
theorem ds_never : DS X st sNever := ⟨ps_never.of fun E' s H ⟨r, m, E, hs, M, h, q⟩ => h⟩

/-! ### targets -/
def gName' (i : Nat) : DTG := fun d r m R => R (r.set i (some d)) m
theorem dg_name {i : Nat} {x : Str} (hN : X.N.Nodup) (hi : X.N[i]? = some x) (hx : Loc X.env.scope x) (hf : X.fn x = true ∨ X.env.scope.names.lookup x = some .local := by first | exact .inl rfl | exact .inr rfl | assumption) : DG X (.Name x pos) (gName' i) :=
  ⟨(pg_name hN hi hx hf).of fun v s H Q ⟨d, r, m, R, rd, hs, M, h, q⟩ => q.here h M (hs.set rd i)⟩
def gNil' : DTGs := fun ds r m R => match ds with
  | [] => R r m
  | _ => False
def gCons' (t : DTG) (u : DTGs) : DTGs := fun ds r m R => match ds with
  | d :: ds => t d r m fun r' m' => u ds r' m' R
  | [] => False
theorem dgs_nil : DGs X [] gNil' := ⟨pgs_nil.of fun vs s H Q ⟨ds, r, m, R, rd, hs, M, h, q⟩ => by
  unfold gNil' at h
  split at h
  · unfold Reps at rd
    exact ⟨rd, q.here h M hs⟩
  · exact h.elim⟩
theorem dgs_cons {e : Expr} {es : List Expr} {t : DTG} {u : DTGs} (h1 : DG X e t) (h2 : DGs X es u)
    (hs : (assignEach (e :: es) X.env).map (·.2) = assign e X.env :: (assignEach es X.env).map (·.2) := by rfl) : DGs X (e :: es) (gCons' t u) :=
  ⟨(pgs_cons h1.p h2.p hs).of fun vs s H Q ⟨ds, r, m, R, rd, hs, M, h, q⟩ => by
    unfold gCons' at h
    split at h
    · unfold Reps at rd
      obtain ⟨v, vr, e, r1, r2⟩ := rd
      exact ⟨v, vr, e, _, r, m, _, r1, hs, M, h, fun r' m' s' H' h' st' M' q' => ⟨_, r', m', R, r2.keep st'.keep, q', M', h', q.step st'⟩⟩
    · exact h.elim⟩
def gTup' (n : Nat) (t : DTGs) : DTG := fun d r m R => match d with
  | .tup ds => ds.length = n ∧ t ds r m R
  | .ref a => match m a with
    | some (.lst ds) => ds.length = n ∧ t ds r m R
    | _ => False
  | _ => False
theorem _root_.L2.PG.or {X : Cx} {e : Expr} {t t' : TG} (h : PG X e t) (h' : PG X e t') : PG X e (fun v s H Q => t v s H Q ∨ t' v s H Q) := ⟨fun pins s σ H v u Q I r q => q.elim (h.run pins s σ H v u Q I r) (h'.run pins s σ H v u Q I r)⟩
theorem dg_tup {es : List Expr} {k : Nat} {t : DTGs} {n : Nat} (hc : X.calm = true) (h : DGs X es t)
    (hn : (assignEach es X.env).length = n := by rfl) (hst : (assignEach es X.env).findIdx? (·.1) = none := by rfl) : DG X (.Tuple es k pos) (gTup' n t) :=
  ⟨((pg_tup hc h.p hn hst).or (pg_lst hc h.p hn hst)).of fun v s H Q ⟨d, r, m, R, rd, hs, M, h, q⟩ => by
    unfold gTup' at h
    split at h
    · obtain ⟨p, xs, e, hp, rx⟩ := Rep.tup_.mp rd
      exact .inl ⟨p, xs, e, hp, by rw [← rx.length]; exact h.1, _, r, m, R, rx, hs, M, h.2, q⟩
    · rename_i a
      split at h
      · rename_i ds ed
        obtain rfl := Rep.ref_.mp rd
        obtain ⟨xs, hx, rx⟩ := M _ _ ed
        exact .inr ⟨a, xs, rfl, .inl (.inl hx), by rw [← rx.length]; exact h.1, _, r, m, R, rx, hs, M, h.2, q⟩
      · exact h.elim
    · exact h.elim⟩
def sAsg (te : DTE) (g : DTG) : DTS := fun E r m => te r m fun x m1 => g x r m1 E.nx
theorem ds_asg {tg e : Expr} {te : DTE} {g : DTG} (he : DE X e te) (hg : DG X tg g) (hs : swapsWithSole [tg] e pos.line X.env = pure false := by rfl) (hw : swappedStores [tg] e X.env = pure none := by rfl)
    (h1 : (assignEach [tg] X.env).map (·.2) = [assign tg X.env] := by rfl) : DS X (.Assign [tg] e pos) (sAsg te g) :=
  ⟨(ps_asg he.p hg.p hs hw h1).of fun E' s H ⟨r, m, E, hs, M, h, q⟩ => ⟨r, m, _, hs, M, h, fun x m1 v H1 h1 s1 M1 q1 => ⟨x, r, m1, E.nx, q1, hs.keep s1.keep, M1, h1, q.nx.step s1⟩⟩⟩
def sSet (i : Nat) (te : DTE) : DTS := fun E r m => te r m fun x m1 => E.nx (r.set i (some x)) m1
theorem ds_set {i : Nat} {x : Str} {e : Expr} {te : DTE} {pos' : Pos} (hN : X.N.Nodup) (hi : X.N[i]? = some x) (hx : Loc X.env.scope x) (he : DE X e te) (hs : swapsWith e (some (.Name x pos')) pos.line X.env = pure false := by rfl) (hf : X.fn x = true ∨ X.env.scope.names.lookup x = some .local := by first | exact .inl rfl | exact .inr rfl | assumption) :
    DS X (.Assign [.Name x pos'] e pos) (sSet i te) :=
  ⟨(ps_set hN hi hx he.p hs hf).of fun E' s H ⟨r, m, E, hs, M, h, q⟩ => ⟨r, m, _, hs, M, h, fun x m1 v H1 h1 s1 M1 q1 => q.nx _ _ _ _ h1 s1 M1 ((hs.keep s1.keep).set q1 i)⟩⟩
def sPar (i j : Nat) (ta tb : DTE) : DTS := fun E r m => ta r m fun x m1 => tb r m1 fun y m2 => E.nx ((r.set i (some x)).set j (some y)) m2
theorem ds_par {i j : Nat} {x y : Str} {a b : Expr} {ta tb : DTE} {px py pt : Pos} {kt k2 pt2} (hc : X.calm = true) (hN : X.N.Nodup) (hi : X.N[i]? = some x) (hj : X.N[j]? = some y) (hij : i ≠ j)
    (hx : X.env.scope.names.lookup x = some .local) (hy : X.env.scope.names.lookup y = some .local) (ha : DE X a ta) (hb : DE X b tb)
    (hw : swappedStores [.Tuple [.Name x px, .Name y py] kt pt] (.Tuple [a, b] k2 pt2) X.env = pure (some [x, y]) := by rfl)
    (hs : swapsWithSole [.Tuple [.Name x px, .Name y py] kt pt] (.Tuple [a, b] k2 pt2) pos.line X.env = pure false := by rfl)
    (s1 : starEach [a, b] X.env = (false, eval a X.env) :: starEach [b] X.env := by rfl) (s2 : starEach [b] X.env = (false, eval b X.env) :: starEach [] X.env := by rfl) :
    DS X (.Assign [.Tuple [.Name x px, .Name y py] kt pt] (.Tuple [a, b] k2 pt2) pos) (sPar i j ta tb) :=
  ⟨(ps_par hc hN hi hj hij hx hy (pa_cons ha.p (pa_cons hb.p pa_nil s2) s1) hw hs).of fun E' s H ⟨r, m, E, hs, M, h, q⟩ => ⟨r, m, _, hs, M, h, fun x m1 v H1 h1 s1 M1 q1 =>
    ⟨r, m1, _, hs.keep s1.keep, M1, h1, fun y m2 w H2 h2 s2 M2 q2 => ⟨v, w, rfl, q.nx _ _ _ _ h2 (s1.trans s2) M2 (((hs.keep (s1.trans s2).keep).set (q1.keep s2.keep) i).set q2 j)⟩⟩⟩⟩
/-- x op= e -/
def sAug (i : Nat) (te : DTE) (g : G2) : DTS := fun E r m => match r[i]? with
  | some (some x) => te r m fun y m1 => g x y m1 fun z m2 => E.nx (r.set i (some z)) m2
  | _ => False
theorem ds_aug {i : Nat} {x : Str} {e : Expr} {te : DTE} {op : Operator} {ti : R2} {g : G2} {pos' : Pos} (hN : X.N.Nodup) (hi : X.N[i]? = some x) (hx : Loc X.env.scope x) (he : DE X e te) (ho : OpR X (inplaceOp op) ti) (hg : Lift2 X.K ti g)
    (hf : X.fn x = true ∨ X.env.scope.names.lookup x = some .local := by first | exact .inl rfl | exact .inr rfl | assumption) :
    DS X (.AugAssign (.Name x pos') op e pos) (sAug i te g) :=
  ⟨(ps_aug hN hi hx he.p (show PIp X op ti from ho) hf).of fun E' s H ⟨r, m, E, hs, M, h, q⟩ => by
    unfold sAug at h
    split at h
    · rename_i d e1
      obtain ⟨v, e2, rv⟩ := hs.2 i d e1
      exact ⟨v, e2, r, m, _, hs, M, h, fun y m1 w H1 h1 s1 M1 q1 => hg H1 m1 d y v w _ _ M1 (rv.keep s1.keep) q1 h1 fun z m2 u H2 h2 s2 M2 q2 => q.nx _ _ _ _ h2 (s1.trans s2) M2 ((hs.keep (s1.trans s2).keep).set q2 i)⟩
    · exact h.elim⟩
theorem ds_augAdd {i : Nat} {x : Str} {e : Expr} {te : DTE} {pos' : Pos} (hN : X.N.Nodup) (hi : X.N[i]? = some x) (hx : Loc X.env.scope x) (he : DE X e te)
    (hf : X.fn x = true ∨ X.env.scope.names.lookup x = some .local := by first | exact .inl rfl | exact .inr rfl | assumption) :
    DS X (.AugAssign (.Name x pos') .Add e pos) (sAug i te (gI0 fun i j => .int (i + j))) := ds_aug hN hi hx he iop_add lift_int0 hf
end
end DL

namespace DL
open PySem PySem.Spec PyProof.Rows L2

/-! ### while -/
section
variable {X : Cx} {pos : Pos}
/-- by fuel -/
def whileN (c : DTT) (tb : DTS) : Nat → DTS
  | 0 => fun _ _ _ => False
  | n + 1 => fun E r m => c r m fun b m1 => if b = true then tb { E with nx := whileN c tb n E, ct := whileN c tb n E, bk := E.nx } r m1 else E.nx r m1
def sWhile (c : DTT) (tb : DTS) : DTS := fun E r m => ∃ n, whileN c tb n E r m
theorem ds_while {c : Expr} {body : List Stmt} {tc : DTT} {tb : DTS} (hp : PassesOwn (model X.prog X.w) X.A X.env X.xe) (hc : DT X c tc) (hb : DSs X body tb) : DS X (.While c body [] pos) (sWhile tc tb) :=
  ⟨(ps_while hp hc.p hb.p).of fun E' s H ⟨r, m, E, hs, M, ⟨n, h⟩, q⟩ => by
    refine ⟨fun n s H => ∃ r m, RepS X.K H r s ∧ RepM X.K H m ∧ whileN tc tb n E r m ∧ EndsOk X.K H m E E', ⟨n, r, m, hs, M, h, q⟩, ?_⟩
    rintro n s H ⟨r, m, hs, M, h, q⟩
    cases n with
    | zero => exact h.elim
    | succ n =>
      refine ⟨r, m, _, hs, M, h, fun b m1 H1 h1 s1 M1 => ?_⟩
      cases b with
      | true =>
        refine ⟨fun s H => ∃ r m, RepS X.K H r s ∧ RepM X.K H m ∧ whileN tc tb n E r m ∧ EndsOk X.K H m E E', fun s' H' z => ⟨n, Nat.lt_succ_self n, z⟩, r, m1, _, hs.keep s1.keep, M1, h1, ?_⟩
        exact ⟨fun r2 m2 s2 H2 h2 st2 M2 q2 => ⟨r2, m2, q2, M2, h2, (q.step s1).step st2⟩, (q.step s1).rt, (q.step s1).nx, fun r2 m2 s2 H2 h2 st2 M2 q2 => ⟨r2, m2, q2, M2, h2, (q.step s1).step st2⟩⟩
      | false => exact q.nx _ _ _ _ h1 s1 M1 (hs.keep s1.keep)⟩
end

/-! ### what a loop walks -/
/-- items, and what must stand at each turn -/
structure DIt where
  items : List D
  guard : Mu → Prop
/-- the iterator J gives these items, from the heap H on -/
structure ItL (K : PySem.W.Frag) (H0 : Hp) (m0 : Mu) (J : It) (it : DIt) (inv : Hp → Mu → Prop) : Prop where
  at0 : inv H0 m0
  step : ∀ H m H' m', Step K H m H' m' → inv H m → inv H' m'
  go : ∀ i H m, RepM K H m → inv H m → it.guard m → i < it.items.length → J.go i H
  stop : ∀ H m, RepM K H m → inv H m → it.guard m → J.stop it.items.length H
  yld : ∀ i H m x H', RepM K H m → inv H m → it.guard m → i < it.items.length → J.yld i H x H' → ∃ d, it.items[i]? = some d ∧ Step K H m H' m ∧ RepM K H' m ∧ Rep K H' d x
abbrev DTI := DSt → Mu → (DIt → Mu → Prop) → Prop
def lI (K : PySem.W.Frag) (wi : DTI) : TI := fun s H R => ∃ r m RR, RepS K H r s ∧ RepM K H m ∧ wi r m RR ∧ ∀ it m' H' J inv, RR it m' → Step K H m H' m' → RepM K H' m' → ItL K H' m' J it inv → R J H'
structure DI (X : Cx) (tg iter : Expr) (wi : DTI) : Prop where
  p : PI X tg iter (lI X.K wi)
theorem _root_.L2.PI.of {X : Cx} {tg e : Expr} {t t' : TI} (h : PI X tg e t') (i : ∀ s H R, t s H R → t' s H R) : PI X tg e t := ⟨fun pins s σ H R I q => h.run pins s σ H R I (i _ _ _ q)⟩

/-! ### for -/
def forL (G : Mu → Prop) (g : DTG) (tb : DTS) : List D → DTS
  | [] => fun E r m => G m ∧ E.nx r m
  | d :: ds => fun E r m => G m ∧ g d r m fun r' m' => tb { E with nx := forL G g tb ds E, ct := forL G g tb ds E, bk := E.nx } r' m'
def sFor (wi : DTI) (g : DTG) (tb : DTS) : DTS := fun E r m => wi r m fun it m1 => forL it.guard g tb it.items E r m1
section
variable {X : Cx} {tg iter : Expr} {pos : Pos}
theorem ds_for {body : List Stmt} {wi : DTI} {g : DTG} {tb : DTS} (hp : PassesOwn (model X.prog X.w) X.A X.env X.xe) (hc : X.calm = true) (hi : DI X tg iter wi) (hg : DG X tg g) (hb : DSs X body tb)
    (hs : ∀ x, foldedSetIterable iter X.env x = pure x := by intro _; rfl) : DS X (.For tg iter body [] pos) (sFor wi g tb) :=
  ⟨(ps_for hp hc hi.p hg.p hb.p hs).of fun E' s H ⟨r, m, E, hs, M, h, q⟩ => by
    refine ⟨r, m, _, hs, M, h, fun it m1 H1 J inv h1 s1 M1 L => ?_⟩
    refine ⟨fun i n s H => n = it.items.length - i ∧ i ≤ it.items.length ∧ ∃ r m, RepS X.K H r s ∧ RepM X.K H m ∧ inv H m ∧ forL it.guard g tb (it.items.drop i) E r m ∧ EndsOk X.K H m E E',
      ⟨it.items.length, rfl, Nat.zero_le _, r, m1, hs.keep s1.keep, M1, L.at0, h1, q.step s1⟩, ?_⟩
    rintro i n s H ⟨rfl, hi, r, m, hs, M, hv, h, q⟩
    by_cases hlt : i < it.items.length
    · have ed : it.items.drop i = it.items[i] :: it.items.drop (i + 1) := List.drop_eq_getElem_cons hlt
      rw [ed] at h
      obtain ⟨hG, h⟩ := h
      refine .inr ⟨L.go i H m M hv hG hlt, fun s H => ∃ r m, RepS X.K H r s ∧ RepM X.K H m ∧ inv H m ∧ forL it.guard g tb (it.items.drop (i + 1)) E r m ∧ EndsOk X.K H m E E',
        fun s' H' z => ⟨it.items.length - (i + 1), by omega, rfl, hlt, z⟩, fun x H' y => ?_⟩
      obtain ⟨d, e, st, M', rd⟩ := L.yld i H m x H' M hv hG hlt y
      have e' : it.items[i] = d := by rw [List.getElem?_eq_getElem hlt] at e; exact Option.some.inj e
      rw [e'] at h
      refine ⟨d, r, m, _, rd, hs.keep st.keep, M', h, fun r2 m2 s2 H2 h2 st2 M2 q2 => ?_⟩
      have st02 := st.trans st2
      refine ⟨r2, m2, _, q2, M2, h2, ?_⟩
      exact ⟨fun r3 m3 s3 H3 h3 st3 M3 q3 => ⟨r3, m3, q3, M3, L.step _ _ _ _ (st02.trans st3) hv, h3, q.step (st02.trans st3)⟩, (q.step st02).rt, (q.step st02).nx,
        fun r3 m3 s3 H3 h3 st3 M3 q3 => ⟨r3, m3, q3, M3, L.step _ _ _ _ (st02.trans st3) hv, h3, q.step (st02.trans st3)⟩⟩
    · have e : i = it.items.length := by omega
      subst e
      rw [List.drop_length] at h
      exact .inl ⟨L.stop H m M hv h.1, q.nx.here h.2 M hs⟩⟩

/-- its reading: the items; a list must stand as it is at each turn -/
def seqIt (m : Mu) : D → Option DIt
  | .tup ds => some ⟨ds, fun _ => True⟩
  | .rl ds => some ⟨ds, fun _ => True⟩
  | .ref a => match m a with
    | some (.lst ds) => some ⟨ds, fun m => m a = some (.lst ds)⟩
    | _ => none
  | _ => none
theorem itl_list {K : PySem.W.Frag} {a : Addr} {J : It} {it : DIt} {H0 : Hp} {m0 : Mu} (hJ : J = Itl K a) (inv : Hp → Mu → Prop) (h0 : inv H0 m0) (hs : ∀ H m H' m', Step K H m H' m' → inv H m → inv H' m')
    (hq : ∀ H m, RepM K H m → inv H m → it.guard m → ∃ xs, SqL K H a xs ∧ Reps K H it.items xs) : ItL K H0 m0 J it inv := by
  subst hJ
  refine ⟨h0, hs, fun i H m M hv hG hi => ?_, fun H m M hv hG => ?_, fun i H m x H' M hv hG hi y => ?_⟩
  · obtain ⟨xs, q, r⟩ := hq H m M hv hG
    obtain ⟨v, e, _⟩ := r.get (List.getElem?_eq_getElem hi)
    exact ⟨xs, v, q, e⟩
  · obtain ⟨xs, q, r⟩ := hq H m M hv hG
    exact ⟨xs, q, by rw [r.length]; exact Nat.le_refl _⟩
  · obtain ⟨xs, q, r⟩ := hq H m M hv hG
    obtain ⟨rfl, y⟩ := y
    obtain ⟨d, e, rd⟩ := r.get' (y xs q)
    exact ⟨d, e, Step.refl K _ m, M, rd⟩
theorem itl_tup {K : PySem.W.Frag} {a : Addr} {J : It} {it : DIt} {H0 : Hp} {m0 : Mu} (hJ : J = Itt K a) (inv : Hp → Mu → Prop) (h0 : inv H0 m0) (hs : ∀ H m H' m', Step K H m H' m' → inv H m → inv H' m')
    (hq : ∀ H m, RepM K H m → inv H m → it.guard m → ∃ xs, SqT K H a xs ∧ Reps K H it.items xs) : ItL K H0 m0 J it inv := by
  subst hJ
  refine ⟨h0, hs, fun i H m M hv hG hi => ?_, fun H m M hv hG => ?_, fun i H m x H' M hv hG hi y => ?_⟩
  · obtain ⟨xs, q, r⟩ := hq H m M hv hG
    obtain ⟨v, e, _⟩ := r.get (List.getElem?_eq_getElem hi)
    exact ⟨xs, v, q, e⟩
  · obtain ⟨xs, q, r⟩ := hq H m M hv hG
    exact ⟨xs, q, by rw [r.length]; exact Nat.le_refl _⟩
  · obtain ⟨xs, q, r⟩ := hq H m M hv hG
    obtain ⟨rfl, y⟩ := y
    obtain ⟨d, e, rd⟩ := r.get' (y xs q)
    exact ⟨d, e, Step.refl K _ m, M, rd⟩
/-- a new list, walked -/
def iNew (t : DTA) : DTI := fun r m R => t r m fun ds m1 => R ⟨ds, fun _ => True⟩ m1
theorem di_new {l : Expr} {t : DTA} (hl : DN X l t) : DI X tg l (iNew t) :=
  ⟨(pi_list hl.p).of fun s H R ⟨r, m, RR, hs, M, h, q⟩ => by
    refine ⟨r, m, _, hs, M, h, fun ds m1 a xs H1 h1 s1 M1 ha hm hH rx => ?_⟩
    refine ⟨a, rfl, ⟨xs, SqL.of ha⟩, q _ _ _ _ _ h1 s1 M1 (itl_list rfl (fun H m => m a = none ∧ H a = some (.lst xs) ∧ Reps X.K H ds xs) ⟨hm, ha, rx⟩ (fun H m H' m' st z => ⟨?_, st.fr _ _ z.2.1 z.1, z.2.2.keep st.keep⟩) fun H m M hv _ => ⟨xs, SqL.of hv.2.1, hv.2.2⟩)⟩
    cases e : m' a with
    | none => rfl
    | some o => have := st.dom a o e z.1; rw [z.2.1] at this; cases this⟩
/-- range -/
def rngItems (lo : Int) (n : Nat) : List D := (List.range n).map fun (i : Nat) => D.int (lo + (i : Int))
theorem itl_range {K : PySem.W.Frag} {lo : Int} {n : Nat} {H0 : Hp} {m0 : Mu} : ItL K H0 m0 (Itr lo n) ⟨rngItems lo n, fun _ => True⟩ (fun _ _ => True) := by
  refine ⟨trivial, fun _ _ _ _ _ _ => trivial, fun i H m M hv hG hi => ?_, fun H m M hv hG => ?_, fun i H m x H' M hv hG hi y => ?_⟩
  · show i < n
    simpa [rngItems] using hi
  · show n ≤ (rngItems lo n).length
    simp [rngItems]
  · obtain ⟨rfl, rfl⟩ := y
    have hi' : i < n := by simpa [rngItems] using hi
    exact ⟨.int (lo + i), by simp [rngItems, hi'], Step.refl K _ m, M, Rep.int_.mpr rfl⟩
def iRng1' (t : DTE) : DTI := fun r m R => t r m fun x m1 => match x with
  | .int j => (-(2 ^ 62) ≤ j ∧ j < 2 ^ 62) ∧ R ⟨rngItems 0 j.toNat, fun _ => True⟩ m1
  | _ => False
def iRng2' (t u : DTE) : DTI := fun r m R => t r m fun x m1 => u r m1 fun y m2 => match x, y with
  | .int i, .int j => (-(2 ^ 62) ≤ i ∧ i < 2 ^ 62 ∧ -(2 ^ 62) ≤ j ∧ j < 2 ^ 62) ∧ R ⟨rngItems i (j - i).toNat, fun _ => True⟩ m2
  | _, _ => False
theorem di_range1 {a : Expr} {ta : DTE} {p : Pos} (hg : Gl X "range") (hm : X.mg "range" = none) (ha : DE X a ta) (hs : starEach [a] X.env = [(false, eval a X.env)] := by rfl) : DI X tg (.Call (.Name "range" p) [a] [] pos) (iRng1' ta) :=
  ⟨(pi_range1 hg hm (pa_cons ha.p pa_nil hs) hs).of fun s H R ⟨r, m, RR, hs, M, h, q⟩ => ⟨r, m, _, hs, M, h, fun x m1 v H1 h1 s1 M1 q1 => by
    split at h1
    · rename_i j
      obtain rfl := Rep.int_.mp q1
      exact ⟨j, rfl, h1.1.1, h1.1.2, q _ _ _ _ _ h1.2 s1 M1 itl_range⟩
    · exact h1.elim⟩⟩
theorem di_range2 {a b : Expr} {ta tb : DTE} {p : Pos} (hg : Gl X "range") (hm : X.mg "range" = none) (ha : DE X a ta) (hb : DE X b tb) (hs : starEach [a, b] X.env = [(false, eval a X.env), (false, eval b X.env)] := by rfl) (hs2 : starEach [b] X.env = [(false, eval b X.env)] := by rfl)
    (hs3 : starEach [a, b] X.env = (false, eval a X.env) :: starEach [b] X.env := by rfl) : DI X tg (.Call (.Name "range" p) [a, b] [] pos) (iRng2' ta tb) :=
  ⟨(pi_range2 hg hm (pa_cons ha.p (pa_cons hb.p pa_nil hs2) hs3) hs hs2).of fun s H R ⟨r, m, RR, hs, M, h, q⟩ => ⟨r, m, _, hs, M, h, fun x m1 v H1 h1 s1 M1 q1 => ⟨r, m1, _, hs.keep s1.keep, M1, h1, fun y m2 w H2 h2 s2 M2 q2 => by
    split at h2
    · rename_i i j
      obtain rfl := Rep.int_.mp q1
      obtain rfl := Rep.int_.mp q2
      exact ⟨i, j, rfl, h2.1, q _ _ _ _ _ h2.2 (s1.trans s2) M2 itl_range⟩
    · exact h2.elim⟩⟩⟩
end
end DL

namespace DL
open PySem PySem.Spec PyProof.Rows L2

/-! ### defs and their promises over data -/
/-- an exception: its class, the value that it keeps as row -/
abbrev DXK := Str → Option D → Mu → Prop
abbrev DSp := List D → Mu → DK → DXK → Prop
def RepX (K : PySem.W.Frag) (H : Hp) : Option D → Option Addr → Prop
  | none, d => d = none
  | some x, d => ∃ dd v, d = some dd ∧ H dd = some (.xd [("row", v)]) ∧ Rep K H x v
def DoneX (K : PySem.W.Frag) (H : Hp) (m : Mu) (EE : DXK) (E : XK) : Prop := ∀ c C o m' d H', clsAt K c C → EE c o m' → Step K H m H' m' → RepM K H' m' → RepX K H' o d → E (.ref C) d H'
def lSp (K : PySem.W.Frag) (sp : DSp) : Sp := fun vs H Q E => ∃ ds m R EE, Reps K H ds vs ∧ RepM K H m ∧ sp ds m R EE ∧ Done K H m R Q ∧ DoneX K H m EE E
def X0 : DXK := fun _ _ _ => False
/-- f(..), nothing raised -/
def dCall (sp : DSp) (t : DTA) : DTE := fun r m R => t r m fun ds m1 => sp ds m1 R X0
/-- names at the entry -/
def dstart (n : Nat) (ds : List D) : DSt := ds.map some ++ List.replicate (n - ds.length) none
/-- behind a def: what it made and does not hand back may be forgotten -/
def fin (R : DK) : DK := fun d m => ∃ m', Sub m' m ∧ R d m'
theorem fin_of {R : DK} {d : D} {m : Mu} (h : R d m) : fin R d m := ⟨m, Sub.refl m, h⟩
def dends (R : DK) : DEnds := { nx := fun _ m => fin R .non m, rt := fin R }
section
variable {P : Program} {w : World} {K : PySem.W.Frag} {mg : Str → Option Value} {base : Heap}
theorem RepS.start {H : Hp} {N : List Str} {ds : List D} {vs : List V} (r : Reps K H ds vs) : RepS K H (dstart N.length ds) (L2.start N vs) := by
  have hl := r.length
  refine ⟨?_, fun i d e => ?_⟩
  · unfold dstart L2.start; simp [hl]
  · unfold dstart at e
    unfold L2.start
    by_cases hi : i < ds.length
    · rw [List.getElem?_append_left (by simpa using hi), List.getElem?_map] at e
      rw [List.getElem?_append_left (by simp; omega), List.getElem?_map]
      cases q : ds[i]? with
      | none => rw [q] at e; cases e
      | some c =>
        rw [q] at e
        have e' : c = d := by simpa using e
        subst e'
        obtain ⟨v, ev, rv⟩ := r.get q
        exact ⟨v, by rw [ev]; rfl, rv⟩
    · rw [List.getElem?_append_right (by simpa using hi), List.getElem?_replicate] at e
      split at e <;> cases e
theorem dends_ok {H : Hp} {m : Mu} {R : DK} {Q : VK} (q : Done K H m R Q) : EndsOk K H m (dends R) { nx := fun _ H' => Q .non H', rt := Q } :=
  ⟨fun r m' s H' ⟨m2, sb, h⟩ st M _ => q _ _ _ _ h (st.sub sb) (M.sub sb) (Rep.non_.mpr rfl), fun d m' v H' ⟨m2, sb, h⟩ st M rd => q _ _ _ _ h (st.sub sb) (M.sub sb) rd,
   fun _ _ _ _ h => h.elim, fun _ _ _ _ h => h.elim⟩
/-- THE RULE for a def that lets no exception out -/
theorem def_ok {x qual : Str} {st : Stmt} {f : Addr} {fd : FuncData} {N ps : List Str} {k : Nat} {sp : DSp} {t : DTS} (F : Fun K x qual st f fd) (S : FnScope N ps (defScope st)) (len : ∀ ds m R E, sp ds m R E → ds.length = ps.length)
    (hder : ∀ (cdv : Value) (A : Around) (outer : List Env) (s : Shared) (H : Hp) (E : XK), Room k (A.deeper (envOfC qual (defScope st) s.heap.objs.size f cdv)) → DSs (cxOf CX0 P w K mg base N qual (defScope st) f cdv A outer s H E).nox (defBody st) t)
    (hread : ∀ ds m R E, sp ds m R E → t (dends R) (dstart N.length ds) m) : FnOk P w K mg base CX0 (k + 1) f fd ps (lSp K sp) := by
  refine F.ok S (fun vs H Q E h => ?_) (fun cdv A outer s H vs Q E hr h => ?_)
  · obtain ⟨ds, m, R, EE, r, _, h, _⟩ := h
    rw [← r.length]; exact len _ _ _ _ h
  · obtain ⟨ds, m, R, EE, r, M, h, q, _⟩ := h
    exact ⟨_, (hder cdv A outer s H E hr).p, dstart N.length ds, m, dends R, RepS.start r, M, hread _ _ _ _ h, dends_ok q⟩
end

section
variable {X : Cx} {e o : Expr} {es : List Expr} {te to : DTE} {t : DTA} {p pos apos cpos : Pos} {x : Str}
theorem de_call {k : Nat} {f : Addr} {fd : FuncData} {ps : List Str} {sp : DSp} (F : FnOk X.prog X.w X.K X.mg X.base CX0 k f fd ps (lSp X.K sp)) (hr : Room k X.A) (hg : Gl X x) (hm : X.mg x = some (.ref f)) (hk : PySem.W.keepIn X.K (.ref f) = true) (hb : Binds X.K fd ps [])
    (ha : DA X (e :: es) t) (hdb : (x == ("__debug__" : Str)) = false := by decide) (he : starEach (e :: es) X.env = (false, eval e X.env) :: starEach es X.env := by rfl) (hpl : (backTo pos (starEach es X.env)).any (·.1) = false := by rfl) :
    DE X (.Call (.Name x p) (e :: es) [] pos) (dCall sp t) :=
  ⟨(pe_call F hr hg hm hk hb .nil pass0 ha.p hdb he hpl).of fun s H Q ⟨r, m, R, hs, M, h, q⟩ => ⟨r, m, _, hs, M, h, fun ds m1 vs H1 h1 s1 M1 q1 => by
    show lSp X.K sp (vs ++ []) H1 Q E0
    rw [List.append_nil]
    exact ⟨ds, m1, R, X0, q1, M1, h1, q.step s1, fun _ _ _ _ _ _ _ h => h.elim⟩⟩⟩
/-! ### built-ins by name -/
def LiftC (K : PySem.W.Frag) (r : List V → Hp → VK → Prop) (g : List D → Mu → DK → Prop) : Prop := ∀ H m ds vs R Q, RepM K H m → Reps K H ds vs → g ds m R → Done K H m R Q → r vs H Q
def dB (g : List D → Mu → DK → Prop) (t : DTA) : DTE := fun r m R => t r m fun ds m1 => g ds m1 R
theorem lB {K : PySem.W.Frag} {r : List V → Hp → VK → Prop} {g : List D → Mu → DK → Prop} (hg : LiftC K r g) : ∀ s H Q, lE K (dB g t) s H Q → tCB r (lA K t) s H Q := fun s H Q ⟨ρ, m, R, hs, M, h, q⟩ =>
  ⟨ρ, m, _, hs, M, h, fun ds m1 vs H1 h1 s1 M1 q1 => hg H1 m1 ds vs R Q M1 q1 h1 (q.step s1)⟩
theorem de_b {id : String} {r : List V → Hp → VK → Prop} {g : List D → Mu → DK → Prop} (hc : CallR X (.builtin id) r) (hg : LiftC X.K r g) (gl : Gl X x) (hm : X.mg x = none) (hv : bootBuiltins x = some (.builtin id)) (ha : DA X (e :: es) t) (hn : x ≠ "__name__" := by decide) (hdb : (x == ("__debug__" : Str)) = false := by decide)
    (he : starEach (e :: es) X.env = (false, eval e X.env) :: starEach es X.env := by rfl) (hpl : (backTo pos (starEach es X.env)).any (·.1) = false := by rfl) : DE X (.Call (.Name x p) (e :: es) [] pos) (dB g t) :=
  ⟨(pe_callB hc gl hm hv ha.p hn hdb he hpl).of (lB hg)⟩
theorem de_ty {T : String} {r : List V → Hp → VK → Prop} {g : List D → Mu → DK → Prop} (hc : CallR X (.type T) r) (hg : LiftC X.K r g) (gl : Gl X x) (hm : X.mg x = none) (hv : bootBuiltins x = some (.type T)) (ha : DA X (e :: es) t) (hn : x ≠ "__name__" := by decide) (hdb : (x == ("__debug__" : Str)) = false := by decide)
    (he : starEach (e :: es) X.env = (false, eval e X.env) :: starEach es X.env := by rfl) (hpl : (backTo pos (starEach es X.env)).any (·.1) = false := by rfl) : DE X (.Call (.Name x p) (e :: es) [] pos) (dB g t) :=
  ⟨(pe_callTy hc gl hm hv ha.p hn hdb he hpl).of (lB hg)⟩
theorem Reps.one_ {K : PySem.W.Frag} {H : Hp} {d : D} {vs : List V} (h : Reps K H [d] vs) : ∃ v, vs = [v] ∧ Rep K H d v := by
  unfold Reps at h
  obtain ⟨v, r, e, h1, h2⟩ := h
  unfold Reps at h2
  subst h2
  exact ⟨v, e, h1⟩
theorem Reps.two_ {K : PySem.W.Frag} {H : Hp} {d d2 : D} {vs : List V} (h : Reps K H [d, d2] vs) : ∃ v w, vs = [v, w] ∧ Rep K H d v ∧ Rep K H d2 w := by
  unfold Reps at h
  obtain ⟨v, r, e, h1, h2⟩ := h
  obtain ⟨w, e2, h3⟩ := h2.one_
  subst e2
  exact ⟨v, w, e, h1, h3⟩
/-- abs -/
def gAbs : List D → Mu → DK → Prop := fun ds m R => match ds with
  | [.int i] => R (.int (if i < 0 then -i else i)) m
  | _ => False
theorem de_abs (gl : Gl X "abs") (hm : X.mg "abs" = none) (ha : DA X [e] t) (he : starEach [e] X.env = (false, eval e X.env) :: starEach [] X.env := by rfl) (hpl : (backTo pos (starEach [] X.env)).any (·.1) = false := by rfl) : DE X (.Call (.Name "abs" p) [e] [] pos) (dB gAbs t) :=
  de_b call_abs (fun H m ds vs R Q M r h q => by
    unfold gAbs at h
    split at h
    · rename_i i
      obtain ⟨v, rfl, rv⟩ := r.one_
      obtain rfl := Rep.int_.mp rv
      exact ⟨i, rfl, q.here h M (Rep.int_.mpr rfl)⟩
    · exact h.elim) gl hm (by decide +kernel) ha (by decide) (by decide) he hpl
def gMax2 : List D → Mu → DK → Prop := fun ds m R => match ds with
  | [.int i, .int j] => R (.int (if j > i then j else i)) m
  | _ => False
theorem de_max2 {e2 : Expr} (hc : X.calm = true) (gl : Gl X "max") (hm : X.mg "max" = none) (ha : DA X [e, e2] t) (he : starEach [e, e2] X.env = (false, eval e X.env) :: starEach [e2] X.env := by rfl) (hpl : (backTo pos (starEach [e2] X.env)).any (·.1) = false := by rfl) : DE X (.Call (.Name "max" p) [e, e2] [] pos) (dB gMax2 t) :=
  de_b (call_max2 hc) (fun H m ds vs R Q M r h q => by
    unfold gMax2 at h
    split at h
    · rename_i i j
      obtain ⟨v, w, rfl, rv, rw'⟩ := r.two_
      obtain rfl := Rep.int_.mp rv
      obtain rfl := Rep.int_.mp rw'
      exact ⟨i, j, rfl, q.here h M (Rep.int_.mpr rfl)⟩
    · exact h.elim) gl hm (by decide +kernel) ha (by decide) (by decide) he hpl
def gInt : List D → Mu → DK → Prop := fun ds m R => match ds with
  | [.int i] => R (.int i) m
  | [.bl k] => R (.int (if k then 1 else 0)) m
  | _ => False
theorem de_intOf (gl : Gl X "int") (hm : X.mg "int" = none) (ha : DA X [e] t) (he : starEach [e] X.env = (false, eval e X.env) :: starEach [] X.env := by rfl) (hpl : (backTo pos (starEach [] X.env)).any (·.1) = false := by rfl) : DE X (.Call (.Name "int" p) [e] [] pos) (dB gInt t) :=
  de_ty call_int1 (fun H m ds vs R Q M r h q => by
    unfold gInt at h
    split at h
    · rename_i i
      obtain ⟨v, rfl, rv⟩ := r.one_
      obtain rfl := Rep.int_.mp rv
      exact .inl ⟨i, rfl, q.here h M (Rep.int_.mpr rfl)⟩
    · rename_i k
      obtain ⟨v, rfl, rv⟩ := r.one_
      obtain rfl := Rep.bl_.mp rv
      exact .inr ⟨k, rfl, q.here h M (Rep.int_.mpr rfl)⟩
    · exact h.elim) gl hm (by decide +kernel) ha (by decide) (by decide) he hpl
/-- len of a row or a text -/
def gLen : List D → Mu → DK → Prop := fun ds m R => match ds with
  | [.str z] => z.length ≤ sizeLine ∧ R (.int z.length) m
  | [d] => match seqOf m d with
    | some xs => R (.int xs.length) m
    | none => False
  | _ => False
theorem de_len (gl : Gl X "len") (hm : X.mg "len" = none) (ha : DA X [e] t) (he : starEach [e] X.env = (false, eval e X.env) :: starEach [] X.env := by rfl) (hpl : (backTo pos (starEach [] X.env)).any (·.1) = false := by rfl) : DE X (.Call (.Name "len" p) [e] [] pos) (dB gLen t) :=
  de_b (call_len_seq.or call_len_str) (fun H m ds vs R Q M r h q => by
    unfold gLen at h
    split at h
    · rename_i z
      obtain ⟨v, rfl, rv⟩ := r.one_
      obtain rfl := Rep.str_.mp rv
      exact .inr ⟨z, rfl, h.1, q.here h.2 M (Rep.int_.mpr rfl)⟩
    · rename_i d _
      split at h
      · rename_i xs ex
        obtain ⟨v, rfl, rv⟩ := r.one_
        obtain ⟨a, ys, rfl, hs, ry⟩ := seqOf_rep M rv ex
        exact .inl ⟨a, ys, rfl, hs, q.here h M (Rep.int_.mpr (by rw [ry.length]))⟩
      · exact h.elim
    · exact h.elim) gl hm (by decide +kernel) ha (by decide) (by decide) he hpl
/-- tuple(row), tuple(new list), list(row) -/
def gTupleOf : List D → Mu → DK → Prop := fun ds m R => match ds with
  | [d] => match seqOf m d with
    | some xs => R (.tup xs) m
    | none => False
  | _ => False
theorem de_tupleOf (gl : Gl X "tuple") (hm : X.mg "tuple" = none) (ha : DA X [e] t) (he : starEach [e] X.env = (false, eval e X.env) :: starEach [] X.env := by rfl) (hpl : (backTo pos (starEach [] X.env)).any (·.1) = false := by rfl) : DE X (.Call (.Name "tuple" p) [e] [] pos) (dB gTupleOf t) :=
  de_ty call_tuple_of (fun H m ds vs R Q M r h q => by
    unfold gTupleOf at h
    split at h
    · rename_i d
      split at h
      · rename_i xs ex
        obtain ⟨v, rfl, rv⟩ := r.one_
        obtain ⟨a, ys, rfl, hs, ry⟩ := seqOf_repN M rv ex
        rcases hs with hs | hs
        · exact ⟨a, ys, rfl, .inl ⟨hs, fun l hl => q _ _ _ _ h (Step.new hl) (M.new hl) (Rep.tup_.mpr ⟨l, ys, rfl, upd_same, ry.keep (Keep.new hl)⟩)⟩⟩
        · exact ⟨a, ys, rfl, .inr ⟨hs.sq, q.here h M (Rep.tup0.mpr ⟨a, ys, rfl, hs, ry⟩)⟩⟩
      · exact h.elim
    · exact h.elim) gl hm (by decide +kernel) ha (by decide) (by decide) he hpl
def dTupN (t : DTA) : DTE := fun r m R => t r m fun xs m1 => R (.tup xs) m1
theorem de_tupN (gl : Gl X "tuple") (hm : X.mg "tuple" = none) (ha : DN X e t) (he : starEach [e] X.env = (false, eval e X.env) :: starEach [] X.env := by rfl) (hpl : (backTo pos (starEach [] X.env)).any (·.1) = false := by rfl) : DE X (.Call (.Name "tuple" p) [e] [] pos) (dTupN t) :=
  ⟨(pe_callTy call_tuple_of gl hm (by decide +kernel) (pa_cons ha.p pa_nil he) (by decide) (by decide) he hpl).of fun s H Q ⟨r, m, R, hs, M, h, q⟩ => ⟨r, m, _, hs, M, h, fun ds m1 a xs H1 h1 s1 M1 ha hm hH rx =>
    ⟨a, xs, rfl, .inl ⟨SqL.of ha, fun l hl => q _ _ _ _ h1 (s1.trans (Step.new hl)) (M1.new hl) (Rep.tup_.mpr ⟨l, xs, rfl, upd_same, rx.keep (Keep.new hl)⟩)⟩⟩⟩⟩
def nListOf (te : DTE) : DTA := fun r m R => te r m fun d m1 => match seqOf m1 d with
  | some xs => R xs m1
  | none => False
theorem dn_listOf (gl : Gl X "list") (hm : X.mg "list" = none) (ha : DE X e te) (he : starEach [e] X.env = (false, eval e X.env) :: starEach [] X.env := by rfl) (hpl : (backTo pos (starEach [] X.env)).any (·.1) = false := by rfl) : DN X (.Call (.Name "list" p) [e] [] pos) (nListOf te) :=
  ⟨(pe_callTy call_list_of gl hm (by decide +kernel) (pa_cons ha.p pa_nil he) (by decide) (by decide) he hpl).of fun s H Q ⟨r, m, R, hs, M, h, q⟩ => ⟨r, m, _, hs, M, h, fun d m1 v H1 h1 s1 M1 q1 => by
    split at h1
    · rename_i xs ex
      obtain ⟨a, ys, rfl, hs, ry⟩ := seqOf_rep M1 q1 ex
      exact ⟨a, ys, rfl, hs, fun l hl => q _ _ _ _ _ h1 (s1.trans (Step.new hl)) (M1.new hl) upd_same (M1.free hl) (s1.th _ hl) (ry.keep (Keep.new hl))⟩
    · exact h1.elim⟩⟩

/-! ### methods of lists -/
def isLst (m : Mu) : D → Prop
  | .ref a => ∃ xs, m a = some (.lst xs)
  | _ => False
def dM (g : D → List D → Mu → DK → Prop) (to : DTE) (t : DTA) : DTE := fun r m R => to r m fun x m1 => isLst m1 x ∧ t r m1 fun xs m2 => g x xs m2 R
def LiftM (K : PySem.W.Frag) (r : V → List V → Hp → VK → Prop) (g : D → List D → Mu → DK → Prop) : Prop := ∀ H m d ds v vs R Q, RepM K H m → Rep K H d v → Reps K H ds vs → g d ds m R → Done K H m R Q → r v vs H Q
theorem isLst_ty {K : PySem.W.Frag} {H : Hp} {m : Mu} {x : D} {v : V} (h : isLst m x) (M : RepM K H m) (r : Rep K H x v) : tyV K "list" v H := by
  unfold isLst at h
  split at h
  · obtain ⟨ds, e⟩ := h
    obtain rfl := Rep.ref_.mp r
    obtain ⟨xs, hx, _⟩ := M _ _ e
    exact .inl ⟨rfl, xs, SqL.of hx⟩
  · exact h.elim
theorem de_m {id : String} {name : Str} {r : V → List V → Hp → VK → Prop} {g : D → List D → Mu → DK → Prop} (slot : Slot "list" name id) (hty : typeOf (.builtin id) = pure (.type "method_descriptor")) (hm : MtR X id r) (hg : LiftM X.K r g) (ho : DE X o to) (ha : DA X (e :: es) t)
    (hbase : attributeBase o name X.env (eval o X.env) = eval o X.env := by rfl)
    (hfew : ((backTo cpos (starEach (e :: es) X.env)).all (fun x => !x.1) && (backToKw cpos (keywordEach [] X.env)).all (fun x => x.1.isSome)
      && decide ((e :: es).length + ([] : List Keyword).length + (if ([] : List Keyword).isEmpty then 0 else 1) < 30)) = true := by rfl)
    (hline : (apos.endLine == cpos.line) = true := by rfl) (hs : starEach (e :: es) X.env = (false, eval e X.env) :: starEach es X.env := by rfl) (hplain : (backTo cpos (starEach es X.env)).any (·.1) = false := by rfl) :
    DE X (.Call (.Attribute o name apos) (e :: es) [] cpos) (dM g to t) :=
  ⟨(pe_bm PySem.F.plainAttrs_list slot hty hm ho.p ha.p hbase hfew hline hs hplain).of fun s H Q ⟨r, m, R, hs, M, h, q⟩ => ⟨r, m, _, hs, M, h, fun x m1 v H1 h1 s1 M1 q1 =>
    ⟨isLst_ty h1.1 M1 q1, r, m1, _, hs.keep s1.keep, M1, h1.2, fun ds m2 vs H2 h2 s2 M2 q2 => hg H2 m2 x ds v vs R Q M2 (q1.keep s2.keep) q2 h2 (q.step (s1.trans s2))⟩⟩⟩
theorem Mut.lst {xs : List V} : Mut (some (.lst xs)) := trivial
def gAppend : D → List D → Mu → DK → Prop := fun x ds m R => match x, ds with
  | .ref a, [d] => match m a with
    | some (.lst xs) => xs.length < sizeLine ∧ R .non (mput m a (.lst (xs ++ [d])))
    | _ => False
  | _, _ => False
theorem de_append (ho : DE X o to) (ha : DA X [e] t) (hbase : attributeBase o "append" X.env (eval o X.env) = eval o X.env := by rfl)
    (hfew : ((backTo cpos (starEach [e] X.env)).all (fun x => !x.1) && (backToKw cpos (keywordEach [] X.env)).all (fun x => x.1.isSome)
      && decide ([e].length + ([] : List Keyword).length + (if ([] : List Keyword).isEmpty then 0 else 1) < 30)) = true := by rfl)
    (hline : (apos.endLine == cpos.line) = true := by rfl) (hs : starEach [e] X.env = (false, eval e X.env) :: starEach [] X.env := by rfl) (hplain : (backTo cpos (starEach [] X.env)).any (·.1) = false := by rfl) :
    DE X (.Call (.Attribute o "append" apos) [e] [] cpos) (dM gAppend to t) :=
  de_m PySem.F.slot_list_append PySem.F.type_list_append mt_append (fun H m d ds v vs R Q M rd rds h q => by
    unfold gAppend at h
    split at h
    · rename_i a c
      split at h
      · rename_i xs ex
        obtain rfl := Rep.ref_.mp rd
        obtain ⟨y, rfl, ry⟩ := rds.one_
        obtain ⟨zs, hz, rz⟩ := M _ _ ex
        exact ⟨a, zs, y, rfl, rfl, hz, by rw [← rz.length]; exact h.1, q _ _ _ _ h.2 (Step.wr hz Mut.lst ex) (M.wr hz Mut.lst ⟨_, upd_same, (rz.append (Reps.one ry)).keep (Keep.wr hz Mut.lst)⟩) (Rep.non_.mpr rfl)⟩
      · exact h.elim
    · exact h.elim) ho ha hbase hfew hline hs hplain
/-- xs.extend(a new list) -/
def dExtN (to : DTE) (t : DTA) : DTE := fun r m R => to r m fun x m1 => isLst m1 x ∧ t r m1 fun zs m2 => match x with
  | .ref a => match m2 a with
    | some (.lst xs) => xs.length + zs.length ≤ sizeLine ∧ R .non (mput m2 a (.lst (xs ++ zs)))
    | _ => False
  | _ => False
theorem de_extN (ho : DE X o to) (ha : DN X e t) (hbase : attributeBase o "extend" X.env (eval o X.env) = eval o X.env := by rfl)
    (hfew : ((backTo cpos (starEach [e] X.env)).all (fun x => !x.1) && (backToKw cpos (keywordEach [] X.env)).all (fun x => x.1.isSome)
      && decide ([e].length + ([] : List Keyword).length + (if ([] : List Keyword).isEmpty then 0 else 1) < 30)) = true := by rfl)
    (hline : (apos.endLine == cpos.line) = true := by rfl) (hs : starEach [e] X.env = (false, eval e X.env) :: starEach [] X.env := by rfl) (hplain : (backTo cpos (starEach [] X.env)).any (·.1) = false := by rfl) :
    DE X (.Call (.Attribute o "extend" apos) [e] [] cpos) (dExtN to t) :=
  ⟨(pe_bm PySem.F.plainAttrs_list PySem.F.slot_list_extend PySem.F.type_list_extend mt_extend ho.p (pa_cons ha.p pa_nil hs) hbase hfew hline hs hplain).of fun s H Q ⟨r, m, R, hs, M, h, q⟩ => ⟨r, m, _, hs, M, h, fun x m1 v H1 h1 s1 M1 q1 =>
    ⟨isLst_ty h1.1 M1 q1, r, m1, _, hs.keep s1.keep, M1, h1.2, fun zs m2 b ys H2 h2 s2 M2 hb hmb hHb ry => by
      split at h2
      · rename_i a
        split at h2
        · rename_i xs ex
          obtain rfl := Rep.ref_.mp q1
          obtain ⟨ws, hw, rw'⟩ := M2 _ _ ex
          exact ⟨a, b, ws, ys, rfl, rfl, hw, hb, by rw [← rw'.length, ← ry.length]; exact h2.1, q _ _ _ _ h2.2 ((s1.trans s2).trans (Step.wr hw Mut.lst ex)) (M2.wr hw Mut.lst ⟨_, upd_same, (rw'.append ry).keep (Keep.wr hw Mut.lst)⟩) (Rep.non_.mpr rfl)⟩
        · exact h2.elim
      · exact h2.elim⟩⟩⟩
theorem Reps.dropLast {K : PySem.W.Frag} {H : Hp} {ds : List D} {vs : List V} (h : Reps K H ds vs) : Reps K H ds.dropLast vs.dropLast := by
  rw [List.dropLast_eq_take, List.dropLast_eq_take, h.length]
  exact h.take _
/-! ### xs[i] = v -/
def gSetIx (to ti : DTE) : DTG := fun d r m R => to r m fun x m1 => ti r m1 fun y m2 => match x, y with
  | .ref a, .int k => match m2 a with
    | some (.lst xs) => match ixN xs.length k with
      | some j => R r (mput m2 a (.lst (xs.set j d)))
      | none => False
    | _ => False
  | _, _ => False
theorem dg_sub {o i : Expr} {to ti : DTE} (ho : DE X o to) (hi : DE X i ti)
    (ha : ∀ v, assign (.Subscript o i pos) X.env v = (do
      let ov ← holding [v] (eval o X.env)
      let iv ← holding [v, ov] (eval i X.env)
      standAt pos
      holding [v, ov, iv] (setItem ov iv v)
      release [v, ov, iv] []) := by intro _; rfl) : DG X (.Subscript o i pos) (gSetIx to ti) :=
  ⟨(pg_sub ho.p hi.p set_list ha).of fun v s H Q ⟨d, r, m, R, rd, hs, M, h, q⟩ => ⟨r, m, _, hs, M, h, fun x m1 u H1 h1 s1 M1 q1 => ⟨r, m1, _, hs.keep s1.keep, M1, h1, fun y m2 w H2 h2 s2 M2 q2 => by
    split at h2
    · rename_i a k
      split at h2
      · rename_i xs ex
        split at h2
        · rename_i j ej
          obtain rfl := Rep.ref_.mp q1
          obtain rfl := Rep.int_.mp q2
          obtain ⟨zs, hz, rz⟩ := M2 _ _ ex
          refine ⟨a, zs, k, j, rfl, rfl, hz, by rw [← rz.length]; exact ej, ?_⟩
          have st := s1.trans (s2.trans (Step.wr (K := X.K) (o := .lst (zs.set j v)) (w := .lst (xs.set j d)) hz Mut.lst ex))
          exact q _ _ _ _ h2 st (M2.wr hz Mut.lst ⟨_, upd_same, (rz.set (rd.keep (s1.trans s2).keep) j).keep (Keep.wr hz Mut.lst)⟩) (hs.keep st.keep)
        · exact h2.elim
      · exact h2.elim
    · exact h2.elim⟩⟩⟩
end
end DL

namespace DL
open PySem PySem.Spec PyProof.Rows L2

/-! ### targets of a comprehension: they store their own slots alone -/
def DoneW (K : PySem.W.Frag) (vs : List Nat) (s0 : L2.St) (H : Hp) (m : Mu) (R : DSt → Mu → Prop) (Q : L2.St → Hp → Prop) : Prop := ∀ r m' s H', R r m' → Step K H m H' m' → RepM K H' m' → RepS K H' r s → wipe s vs = wipe s0 vs → Q s H'
def lGw (K : PySem.W.Frag) (vs : List Nat) (g : DTG) : TG := fun v s H Q => ∃ d r m R, Rep K H d v ∧ RepS K H r s ∧ RepM K H m ∧ g d r m R ∧ DoneW K vs s H m R Q
def lGws (K : PySem.W.Frag) (vs : List Nat) (g : DTGs) : TGs := fun ws s H Q => ∃ ds r m R, Reps K H ds ws ∧ RepS K H r s ∧ RepM K H m ∧ g ds r m R ∧ DoneW K vs s H m R Q
structure DGw (X : Cx) (vs : List Nat) (e : Expr) (t : DTG) : Prop where
  p : PG X e (lGw X.K vs t)
structure DGws (X : Cx) (vs : List Nat) (e : List Expr) (t : DTGs) : Prop where
  p : PGs X e (lGws X.K vs t)
theorem wipe_get {s : L2.St} {j : Nat} : ∀ (vs : List Nat), (wipe s vs)[j]? = if j ∈ vs ∧ j < s.length then some none else s[j]?
  | [] => by simp [wipe]
  | v :: vs => by
    unfold wipe
    rw [List.getElem?_set, wipe_length, wipe_get vs]
    by_cases h : v = j
    · subst h
      by_cases hl : v < s.length
      · simp [hl]
      · simp [hl]
    · have h' : ¬ j = v := fun e => h e.symm
      simp [h, h']
theorem wipe_set {s : L2.St} {i : Nat} {o : Option V} {vs : List Nat} (hi : i ∈ vs) : wipe (s.set i o) vs = wipe s vs := by
  apply List.ext_getElem?
  intro j
  rw [wipe_get, wipe_get, List.length_set, List.getElem?_set]
  by_cases h : j ∈ vs ∧ j < s.length
  · rw [if_pos h, if_pos h]
  · rw [if_neg h, if_neg h]
    by_cases e : i = j
    · subst e
      have : ¬ i < s.length := fun z => h ⟨hi, z⟩
      rw [if_pos rfl, if_neg this, List.getElem?_eq_none (by omega)]
    · rw [if_neg e]
section
variable {X : Cx} {pos : Pos} {vs : List Nat}
theorem dgw_name {i : Nat} {x : Str} (hN : X.N.Nodup) (hi : X.N[i]? = some x) (hx : Loc X.env.scope x) (hv : i ∈ vs := by decide) (hf : X.fn x = true ∨ X.env.scope.names.lookup x = some .local := by first | exact .inl rfl | exact .inr rfl | assumption) : DGw X vs (.Name x pos) (gName' i) :=
  ⟨(pg_name hN hi hx hf).of fun v s H Q ⟨d, r, m, R, rd, hs, M, h, q⟩ => q _ _ _ _ h (Step.refl _ H m) M (hs.set rd i) (wipe_set hv)⟩
theorem dgws_nil : DGws X vs [] gNil' := ⟨pgs_nil.of fun ws s H Q ⟨ds, r, m, R, rd, hs, M, h, q⟩ => by
  unfold gNil' at h
  split at h
  · unfold Reps at rd
    exact ⟨rd, q _ _ _ _ h (Step.refl _ H m) M hs rfl⟩
  · exact h.elim⟩
theorem dgws_cons {e : Expr} {es : List Expr} {t : DTG} {u : DTGs} (h1 : DGw X vs e t) (h2 : DGws X vs es u)
    (hs : (assignEach (e :: es) X.env).map (·.2) = assign e X.env :: (assignEach es X.env).map (·.2) := by rfl) : DGws X vs (e :: es) (gCons' t u) :=
  ⟨(pgs_cons h1.p h2.p hs).of fun ws s H Q ⟨ds, r, m, R, rd, hs, M, h, q⟩ => by
    unfold gCons' at h
    split at h
    · unfold Reps at rd
      obtain ⟨v, vr, e, r1, r2⟩ := rd
      exact ⟨v, vr, e, _, r, m, _, r1, hs, M, h, fun r' m' s' H' h' st' M' q' w' => ⟨_, r', m', R, r2.keep st'.keep, q', M', h', fun r2 m2 s2 H2 hh st2 M2 q2 w2 => q _ _ _ _ hh (st'.trans st2) M2 q2 (w2.trans w')⟩⟩
    · exact h.elim⟩
theorem dgw_tup {es : List Expr} {k : Nat} {t : DTGs} {n : Nat} (hc : X.calm = true) (h : DGws X vs es t)
    (hn : (assignEach es X.env).length = n := by rfl) (hst : (assignEach es X.env).findIdx? (·.1) = none := by rfl) : DGw X vs (.Tuple es k pos) (gTup' n t) :=
  ⟨((pg_tup hc h.p hn hst).or (pg_lst hc h.p hn hst)).of fun v s H Q ⟨d, r, m, R, rd, hs, M, h, q⟩ => by
    unfold gTup' at h
    split at h
    · obtain ⟨p, xs, e, hp, rx⟩ := Rep.tup_.mp rd
      exact .inl ⟨p, xs, e, hp, by rw [← rx.length]; exact h.1, _, r, m, R, rx, hs, M, h.2, q⟩
    · rename_i a
      split at h
      · rename_i ds ed
        obtain rfl := Rep.ref_.mp rd
        obtain ⟨xs, hx, rx⟩ := M _ _ ed
        exact .inr ⟨a, xs, rfl, .inl (.inl hx), by rw [← rx.length]; exact h.1, _, r, m, R, rx, hs, M, h.2, q⟩
      · exact h.elim
    · exact h.elim⟩
/-- the tests of a comprehension -/
structure DTs (X : Cx) (ifs : List Expr) (t : DTT) : Prop where
  p : PTs X ifs (lT X.K t)
theorem _root_.L2.PTs.of {e : List Expr} {t t' : TT} (h : PTs X e t') (i : ∀ s H Q, t s H Q → t' s H Q) : PTs X e t := ⟨fun pins s σ H Q I q => h.run pins s σ H Q I (i _ _ _ q)⟩
def tYes' : DTT := fun _ m R => R true m
theorem dts_nil : DTs X [] tYes' := ⟨pts_nil.of fun s H Q ⟨r, m, R, hs, M, h, q⟩ => q.here h M⟩
theorem dts_one {c : Expr} {t : DTT} (h : DT X c t) : DTs X [c] t := ⟨pts_one h.p⟩

/-! ### list comprehensions -/
def dwipe (r : DSt) : List Nat → DSt
  | [] => r
  | v :: vs => (dwipe r vs).set v none
theorem RepS.wipe {K : PySem.W.Frag} {H : Hp} {r : DSt} {s : L2.St} (h : RepS K H r s) : ∀ vs : List Nat, RepS K H (dwipe r vs) (L2.wipe s vs)
  | [] => h
  | v :: vs => by
    have ih := RepS.wipe h vs
    unfold dwipe L2.wipe
    refine ⟨by simp [ih.1], fun i d e => ?_⟩
    by_cases hv : v = i
    · subst hv
      by_cases hl : v < (dwipe r vs).length
      · rw [List.getElem?_set_self hl] at e; cases e
      · rw [List.getElem?_eq_none (by simpa using hl)] at e; cases e
    · rw [List.getElem?_set_ne hv] at e
      obtain ⟨w, e', q⟩ := ih.2 i d e
      exact ⟨w, by rw [List.getElem?_set_ne hv]; exact e', q⟩
def lcL (G : Mu → Prop) (g : DTG) (tt : DTT) (te : DTE) (r0 : DSt) : List D → List D → Mu → (List D → Mu → Prop) → Prop
  | [], acc, m, R => G m ∧ R acc m
  | d :: ds, acc, m, R => G m ∧ g d r0 m fun r2 m2 => tt r2 m2 fun b m3 => if b = true then te r2 m3 fun y m4 => acc.length < sizeLine ∧ lcL G g tt te r0 ds (acc ++ [y]) m4 R else lcL G g tt te r0 ds acc m3 R
def nLc (wi : DTI) (g : DTG) (tt : DTT) (te : DTE) (vs : List Nat) : DTA := fun r m R => wi r m fun it m1 => lcL it.guard g tt te (dwipe r vs) it.items [] m1 R
theorem Step.wrU {K : PySem.W.Frag} {H H1 : Hp} {m m1 : Mu} {p : Addr} {o u : HO} (s : Step K H m H1 m1) (h0 : H p = none) (hp : H1 p = some u) (hu : Mut (some u)) : Step K H m (upd H1 p o) m1 :=
  ⟨s.keep.trans (Keep.wr hp hu), fun b z h n => (by rw [upd_ne (fun e => by rw [e, h0] at h; cases h)]; exact s.fr b z h n), s.dom, fun b h => s.th b (upd_none h)⟩
theorem RepM.wrU {K : PySem.W.Frag} {H : Hp} {m : Mu} {p : Addr} {o u : HO} (M : RepM K H m) (hm : m p = none) (hp : H p = some u) (hu : Mut (some u)) : RepM K (upd H p o) m := fun a z e =>
  (M a z e).wr hp hu (fun q => by rw [q, hm] at e; cases e)
theorem Step.noM {K : PySem.W.Frag} {H H1 : Hp} {m m1 : Mu} {p : Addr} {u : HO} (s : Step K H m H1 m1) (hm : m p = none) (hp : H p = some u) : m1 p = none := by
  cases e : m1 p with
  | none => rfl
  | some o => have := s.dom p o e hm; rw [hp] at this; cases this
theorem lc_lift {K : PySem.W.Frag} {wi : DTI} {g : DTG} {tt : DTT} {te : DTE} {vs : List Nat} : ∀ s H Q, lL K (nLc wi g tt te vs) s H Q → tLc (lI K wi) (lGw K vs g) (lT K tt) (lE K te) vs s H Q := by
  rintro s H Q ⟨r, m, R, hs, M, h, q⟩
  refine ⟨r, m, _, hs, M, h, fun it m1 H1 J inv h1 s1 M1 L P hP => ?_⟩
  have hmP : m1 P = none := M1.free hP
  refine ⟨fun i n H => n = it.items.length - i ∧ i ≤ it.items.length ∧ ∃ acc xs m, Step K H1 m1 H m ∧ RepM K H m ∧ H P = some (.lst xs) ∧ m P = none ∧ Reps K H acc xs ∧ lcL it.guard g tt te (dwipe r vs) (it.items.drop i) acc m R,
    ⟨it.items.length, rfl, Nat.zero_le _, [], [], m1, Step.new hP, M1.new hP, upd_same, hmP, Reps.nil, h1⟩, ?_⟩
  rintro i n H2 ⟨rfl, hi, acc, xs, m2, st, M2, hx, hm, rx, h2⟩
  have hv : inv H2 m2 := L.step _ _ _ _ st L.at0
  by_cases hlt : i < it.items.length
  · have ed : it.items.drop i = it.items[i] :: it.items.drop (i + 1) := List.drop_eq_getElem_cons hlt
    rw [ed] at h2
    obtain ⟨hG, h2⟩ := h2
    refine .inr ⟨L.go i H2 m2 M2 hv hG hlt, fun H => ∃ acc xs m, Step K H1 m1 H m ∧ RepM K H m ∧ H P = some (.lst xs) ∧ m P = none ∧ Reps K H acc xs ∧ lcL it.guard g tt te (dwipe r vs) (it.items.drop (i + 1)) acc m R,
      fun H' z => ⟨it.items.length - (i + 1), by omega, rfl, hlt, z⟩, fun x H' y => ?_⟩
    obtain ⟨d, e, st', M', rd⟩ := L.yld i H2 m2 x H' M2 hv hG hlt y
    have e' : it.items[i] = d := by rw [List.getElem?_eq_getElem hlt] at e; exact Option.some.inj e
    rw [e'] at h2
    have stA := st.trans st'
    refine ⟨d, dwipe r vs, m2, _, rd, ((hs.keep s1.keep).keep stA.keep).wipe vs, M', h2, fun r3 m3 s3 H3 h3 st3 M3 q3 w3 => ?_⟩
    have stB := stA.trans st3
    have hxB := st3.fr P _ (st'.fr P _ hx hm) hm
    have hmB : m3 P = none := st3.noM hm (st'.fr P _ hx hm)
    refine ⟨w3.trans ?_, r3, m3, _, q3, M3, h3, fun b m4 H4 h4 st4 M4 => ?_⟩
    · apply List.ext_getElem?
      intro j
      rw [wipe_get, wipe_get, wipe_length]
      by_cases hj : j ∈ vs ∧ j < s.length
      · rw [if_pos hj, if_pos hj]
      · rw [if_neg hj, if_neg hj]
    · have hx4 := st4.fr P _ hxB hmB
      have hm4 : m4 P = none := st4.noM hmB hxB
      have stC := stB.trans st4
      cases b with
      | false => exact ⟨acc, xs, m4, stC, M4, hx4, hm4, ((rx.keep st'.keep).keep st3.keep).keep st4.keep, h4⟩
      | true =>
        refine ⟨r3, m4, _, q3.keep st4.keep, M4, h4, fun y m5 v H5 h5 st5 M5 q5 => ?_⟩
        have hx5 := st5.fr P _ hx4 hm4
        have hm5 : m5 P = none := st5.noM hm4 hx4
        have r5 : Reps K H5 acc xs := (((rx.keep st'.keep).keep st3.keep).keep st4.keep).keep st5.keep
        exact ⟨xs, hx5, by rw [← r5.length]; exact h5.1, acc ++ [y], xs ++ [v], m5, (stC.trans st5).wrU hP hx5 Mut.lst, M5.wrU hm5 hx5 Mut.lst, upd_same, hm5, (r5.append (Reps.one q5)).keep (Keep.wr hx5 Mut.lst), h5.2⟩
  · have e : i = it.items.length := by omega
    subst e
    rw [List.drop_length] at h2
    exact .inl ⟨L.stop H2 m2 M2 hv h2.1, q _ _ _ _ _ h2.2 (s1.trans st) M2 hx hm (s1.th _ hP) rx⟩
theorem dn_lc {elt tg iter : Expr} {ifs : List Expr} {scope : Scope} {own : List (Str × Nat)} {wi : DTI} {g : DTG} {tt : DTT} {te : DTE} (hc : X.calm = true) (hN : X.N.Nodup) (hi : DI X tg iter wi) (ok : BlkOk X.N X.env.scope scope own)
    (hg : ∀ (s : Shared) (H : Hp) (C : Addr) (cl : List (Str × Addr)) (fp : List Addr), DGw (X.blk s H scope (compEnvC scope cl C X.env) fp) (own.map (·.2)) tg g) (ht : ∀ (s : Shared) (H : Hp) (C : Addr) (cl : List (Str × Addr)) (fp : List Addr), DTs (X.blk s H scope (compEnvC scope cl C X.env) fp) ifs tt)
    (he : ∀ (s : Shared) (H : Hp) (C : Addr) (cl : List (Str × Addr)) (fp : List Addr), DE (X.blk s H scope (compEnvC scope cl C X.env) fp) elt te) (hs : ∀ x, foldedSetIterable iter X.env x = pure x := by intro _; rfl) :
    DN X (.ListComp elt [⟨tg, iter, ifs, 0⟩] scope pos) (nLc wi g tt te (own.map (·.2))) :=
  ⟨(pe_lc hc hN hi.p ok (fun s H C cl fp => (hg s H C cl fp).p) (fun s H C cl fp => (ht s H C cl fp).p) (fun s H C cl fp => (he s H C cl fp).p) hs).of lc_lift⟩
/-- y = [..]: the list at a new address -/
def sSetN (i : Nat) (t : DTA) : DTS := fun E r m => t r m fun xs m1 => ∀ a, m1 a = none → E.nx (r.set i (some (.ref a))) (mput m1 a (.lst xs))
theorem ds_setLc {i : Nat} {y : Str} {py : Pos} {elt tg iter : Expr} {ifs : List Expr} {scope : Scope} {own : List (Str × Nat)} {spos : Pos} {wi : DTI} {g : DTG} {tt : DTT} {te : DTE} (hc : X.calm = true) (hN : X.N.Nodup) (hy : X.N[i]? = some y) (hyl : X.env.scope.names.lookup y = some .local)
    (hsw : swapsWith (.ListComp elt [⟨tg, iter, ifs, 0⟩] scope pos) (some (.Name y py)) spos.line X.env = pure true) (hi : DI X tg iter wi) (ok : BlkOk X.N X.env.scope scope own)
    (hg : ∀ (s : Shared) (H : Hp) (C : Addr) (cl : List (Str × Addr)) (fp : List Addr), DGw (X.blk s H scope (compEnvC scope cl C X.env) fp) (own.map (·.2)) tg g) (ht : ∀ (s : Shared) (H : Hp) (C : Addr) (cl : List (Str × Addr)) (fp : List Addr), DTs (X.blk s H scope (compEnvC scope cl C X.env) fp) ifs tt)
    (he : ∀ (s : Shared) (H : Hp) (C : Addr) (cl : List (Str × Addr)) (fp : List Addr), DE (X.blk s H scope (compEnvC scope cl C X.env) fp) elt te) (hs : ∀ x, foldedSetIterable iter X.env x = pure x := by intro _; rfl) :
    DS X (.Assign [.Name y py] (.ListComp elt [⟨tg, iter, ifs, 0⟩] scope pos) spos) (sSetN i (nLc wi g tt te (own.map (·.2)))) :=
  ⟨(ps_setLc hc hN hy hyl hsw hi.p ok (fun s H C cl fp => (hg s H C cl fp).p) (fun s H C cl fp => (ht s H C cl fp).p) (fun s H C cl fp => (he s H C cl fp).p) hs).of fun E' s H ⟨r, m, E, hs, M, h, q⟩ =>
    lc_lift s H _ ⟨r, m, _, hs, M, h, fun ds m1 a xs H1 h1 s1 M1 ha hm hH rx => q.nx _ _ _ _ (h1 a hm) (s1.put hH) (M1.put ⟨xs, ha, rx⟩) ((hs.keep s1.keep).set (Rep.ref_.mpr rfl) i)⟩⟩
theorem ds_setN {i : Nat} {x : Str} {e : Expr} {t : DTA} {pos' : Pos} (hN : X.N.Nodup) (hi : X.N[i]? = some x) (hx : Loc X.env.scope x) (he : DN X e t) (hs : swapsWith e (some (.Name x pos')) pos.line X.env = pure false := by rfl) (hf : X.fn x = true ∨ X.env.scope.names.lookup x = some .local := by first | exact .inl rfl | exact .inr rfl | assumption) :
    DS X (.Assign [.Name x pos'] e pos) (sSetN i t) :=
  ⟨(ps_set hN hi hx he.p hs hf).of fun E' s H ⟨r, m, E, hs, M, h, q⟩ => ⟨r, m, _, hs, M, h, fun ds m1 a xs H1 h1 s1 M1 ha hm hH rx => q.nx _ _ _ _ (h1 a hm) (s1.put hH) (M1.put ⟨xs, ha, rx⟩) ((hs.keep s1.keep).set (Rep.ref_.mpr rfl) i)⟩⟩
end
end DL

namespace DL
open PySem PySem.Spec PyProof.Rows L2

/-! ### data as the model's plain data -/
def pyAll (f : D → Option PyData) : List D → Option (List PyData)
  | [] => some []
  | d :: ds => match f d with
    | some p => match pyAll f ds with
      | some ps => some (p :: ps)
      | none => none
    | none => none
def py (m : Mu) : Nat → D → Option PyData
  | 0, _ => none
  | n + 1, d => match d with
    | .non => some .none
    | .bl b => some (.bool b)
    | .int i => some (.int i)
    | .str x => if PyData.strOk x = true then some (.str x) else none
    | .tup ds => match pyAll (py m n) ds with
      | some ps => some (.tuple ps)
      | none => none
    | .rl ds => match pyAll (py m n) ds with
      | some ps => some (.list ps)
      | none => none
    | .ref a => match m a with
      | some (.lst ds) => match pyAll (py m n) ds with
        | some ps => some (.list ps)
        | none => none
      | _ => none
    | .ty _ => none
    | .exc _ _ => none
    | .ktup ds => match pyAll (py m n) ds with
      | some ps => some (.tuple ps)
      | none => none
    | .ctp _ => none
theorem pyAll_dp {K : PySem.W.Frag} {H : Hp} {f : D → Option PyData} (hf : ∀ d p v, f d = some p → Rep K H d v → Dp K H v p) : ∀ {ds : List D} {ps : List PyData} {vs : List V}, pyAll f ds = some ps → Reps K H ds vs → DpAll K H vs ps
  | [], ps, vs, h, r => by
    unfold pyAll at h; cases h
    unfold Reps at r; subst r
    exact .nil
  | d :: ds, ps, vs, h, r => by
    unfold pyAll at h
    split at h
    · rename_i p ep
      split at h
      · rename_i qs eq
        cases h
        unfold Reps at r
        obtain ⟨v, w, e, r1, r2⟩ := r
        subst e
        exact .cons (hf d p v ep r1) (pyAll_dp hf eq r2)
      · cases h
    · cases h
theorem py_dp {K : PySem.W.Frag} {H : Hp} {m : Mu} (M : RepM K H m) : ∀ (n : Nat) (d : D) (p : PyData) (v : V), py m n d = some p → Rep K H d v → Dp K H v p
  | 0, d, p, v, h, r => by unfold py at h; cases h
  | n + 1, d, p, v, h, r => by
    have ih := py_dp M n
    unfold py at h
    split at h
    · cases h; obtain rfl := Rep.non_.mp r; exact .non
    · cases h; obtain rfl := Rep.bl_.mp r; exact .bl _
    · cases h; obtain rfl := Rep.int_.mp r; exact .int _
    · split at h
      · cases h; obtain rfl := Rep.str_.mp r; exact .str _
      · cases h
    · split at h
      · rename_i ps e
        cases h
        obtain ⟨a, xs, rfl, hx, rx⟩ := Rep.tup_.mp r
        exact .tup hx (pyAll_dp ih e rx)
      · cases h
    · split at h
      · rename_i ps e
        cases h
        unfold Rep at r
        obtain ⟨a, xs, rfl, hx, rx⟩ := r
        exact .lst hx.sq (pyAll_dp ih e rx)
      · cases h
    · split at h
      · rename_i e0
        split at h
        · rename_i ps e
          cases h
          obtain rfl := Rep.ref_.mp r
          obtain ⟨xs, hx, rx⟩ := M _ _ e0
          exact .lst (SqL.of hx) (pyAll_dp ih e rx)
        · cases h
      · cases h
    · cases h
    · cases h
    · split at h
      · rename_i ps e
        cases h
        obtain ⟨a, xs, rfl, ⟨o, hx, _⟩, rx⟩ := Rep.ktup_.mp r
        exact .tup (.inl (.inr ⟨o, hx⟩)) (pyAll_dp ih e rx)
      · cases h
    · cases h
theorem pyAll_shape {f : D → Option PyData} {n : Nat} (hf : ∀ d p, f d = some p → p.canLay0 = true ∧ p.depth ≤ n) : ∀ {ds : List D} {ps : List PyData}, pyAll f ds = some ps → PyData.canLayAll0 ps = true ∧ PyData.depthAll ps ≤ n
  | [], ps, h => by unfold pyAll at h; cases h; simp [PyData.canLayAll0, PyData.depthAll]
  | d :: ds, ps, h => by
    unfold pyAll at h
    split at h
    · rename_i p ep
      split at h
      · rename_i qs eq
        cases h
        obtain ⟨a, b⟩ := hf d p ep
        obtain ⟨a2, b2⟩ := pyAll_shape hf eq
        simp [PyData.canLayAll0, PyData.depthAll, a, a2]
        omega
      · cases h
    · cases h
theorem py_shape {m : Mu} : ∀ (n : Nat) (d : D) (p : PyData), py m n d = some p → p.canLay0 = true ∧ p.depth ≤ n
  | 0, d, p, h => by unfold py at h; cases h
  | n + 1, d, p, h => by
    have ih := py_shape (m := m) n
    unfold py at h
    split at h
    · cases h; simp [PyData.canLay0, PyData.depth]
    · cases h; simp [PyData.canLay0, PyData.depth]
    · cases h; simp [PyData.canLay0, PyData.depth]
    · split at h
      · rename_i ok
        cases h; simp [PyData.canLay0, PyData.depth, ok]
      · cases h
    · split at h
      · rename_i ps e
        cases h
        obtain ⟨a, b⟩ := pyAll_shape ih e
        simp [PyData.canLay0, PyData.depth, a]
        omega
      · cases h
    · split at h
      · rename_i ps e
        cases h
        obtain ⟨a, b⟩ := pyAll_shape ih e
        simp [PyData.canLay0, PyData.depth, a]
        omega
      · cases h
    · split at h
      · split at h
        · rename_i ps e
          cases h
          obtain ⟨a, b⟩ := pyAll_shape ih e
          simp [PyData.canLay0, PyData.depth, a]
          omega
        · cases h
      · cases h
    · cases h
    · cases h
    · split at h
      · rename_i ps e
        cases h
        obtain ⟨a, b⟩ := pyAll_shape ih e
        simp [PyData.canLay0, PyData.depth, a]
        omega
      · cases h
    · cases h
theorem py_shaped {m : Mu} {n : Nat} {d : D} {p : PyData} (h : py m n d = some p) (hn : n ≤ 64) : SeqAt.shaped p = true := by
  obtain ⟨a, b⟩ := py_shape n d p h
  unfold SeqAt.shaped
  rw [a, decide_eq_true (by omega)]
  rfl
/-- the depth to which data is looked at -/
abbrev deep : Nat := 12
/-! ### == and != -/
def gEq : G2 := fun x y m R => match x, y with
  | .str i, .str j => R (.bl (decide (i = j))) m
  | x, y => match py m deep x with
    | some p => match py m deep y with
      | some q => R (.bl (PyData.eqv p q)) m
      | none => False
    | none => False
def gNe : G2 := fun x y m R => match x, y with
  | .str i, .str j => R (.bl (!decide (i = j))) m
  | x, y => match py m deep x with
    | some p => match py m deep y with
      | some q => R (.bl (!PyData.eqv p q)) m
      | none => False
    | none => False
theorem lift_eq {K : PySem.W.Frag} : Lift2 K (fun x y H Q => rEq x y H Q ∨ rEqD K x y H Q) gEq := fun H m x y v w R Q M r1 r2 h q => by
  unfold gEq at h
  split at h
  · rename_i i j
    obtain rfl := Rep.str_.mp r1
    obtain rfl := Rep.str_.mp r2
    refine .inl ⟨rfl, q.here h M (Rep.bl_.mpr ?_)⟩
    simp
  · split at h
    · rename_i p ep
      split at h
      · rename_i z ez
        exact .inr ⟨p, z, py_dp M _ _ _ _ ep r1, py_dp M _ _ _ _ ez r2, py_shaped ep (by decide), py_shaped ez (by decide), q.here h M (Rep.bl_.mpr rfl)⟩
      · exact h.elim
    · exact h.elim
theorem lift_ne {K : PySem.W.Frag} : Lift2 K (fun x y H Q => rNe x y H Q ∨ rNeD K x y H Q) gNe := fun H m x y v w R Q M r1 r2 h q => by
  unfold gNe at h
  split at h
  · rename_i i j
    obtain rfl := Rep.str_.mp r1
    obtain rfl := Rep.str_.mp r2
    refine .inl ⟨rfl, q.here h M (Rep.bl_.mpr ?_)⟩
    simp
  · split at h
    · rename_i p ep
      split at h
      · rename_i z ez
        exact .inr ⟨p, z, py_dp M _ _ _ _ ep r1, py_dp M _ _ _ _ ez r2, py_shaped ep (by decide), py_shaped ez (by decide), q.here h M (Rep.bl_.mpr rfl)⟩
      · exact h.elim
    · exact h.elim
section
variable {X : Cx} {a b e o : Expr} {ta tb te to : DTE} {t u : DTA} {pos p : Pos} {k : Nat}
abbrev dEq := d2 gEq
abbrev dNe := d2 gNe
theorem de_eq (hr : Room k X.A) (ha : DE X a ta) (hb : DE X b tb) : DE X (.Compare a [.Eq] [b] pos) (dEq ta tb) := de_cmp (op_eq.or (op_eqD hr.units)) lift_eq ha hb (nomark _)
theorem de_ne (hr : Room k X.A) (ha : DE X a ta) (hb : DE X b tb) : DE X (.Compare a [.NotEq] [b] pos) (dNe ta tb) := de_cmp (op_ne.or (op_neD hr.units)) lift_ne ha hb (nomark _)
theorem dt_eq (hr : Room k X.A) (ha : DE X a ta) (hb : DE X b tb) : DT X (.Compare a [.Eq] [b] pos) (tBool (dEq ta tb)) := dt_cmp (op_eq.or (op_eqD hr.units)) lift_eq ha hb (nomark _)
theorem dt_ne (hr : Room k X.A) (ha : DE X a ta) (hb : DE X b tb) : DT X (.Compare a [.NotEq] [b] pos) (tBool (dNe ta tb)) := dt_cmp (op_ne.or (op_neD hr.units)) lift_ne ha hb (nomark _)

/-! ### with new lists -/
/-- a value and a new list -/
def d2N (g : D → List D → Mu → DK → Prop) (ta : DTE) (t : DTA) : DTE := fun r m R => ta r m fun x m1 => t r m1 fun ys m2 => g x ys m2 R
/-- two new lists -/
def dNN (g : List D → List D → Mu → DK → Prop) (t u : DTA) : DTE := fun r m R => t r m fun xs m1 => u r m1 fun ys m2 => g xs ys m2 R
def Lift2N (K : PySem.W.Frag) (r : R2) (g : D → List D → Mu → DK → Prop) : Prop := ∀ H m x ys v a ws R Q, RepM K H m → Rep K H x v → H a = some (.lst ws) → m a = none → Reps K H ys ws → g x ys m R → Done K H m R Q → r v (.ref a) H Q
def LiftNN (K : PySem.W.Frag) (r : R2) (g : List D → List D → Mu → DK → Prop) : Prop := ∀ H m xs ys a vs b ws R Q, RepM K H m → H a = some (.lst vs) → m a = none → Reps K H xs vs → H b = some (.lst ws) → m b = none → Reps K H ys ws → g xs ys m R → Done K H m R Q → r (.ref a) (.ref b) H Q
theorem l2N {r : R2} {g : D → List D → Mu → DK → Prop} {K : PySem.W.Frag} (hg : Lift2N K r g) : ∀ s H Q, lE K (d2N g ta t) s H Q → tOp r (lE K ta) (lL K t) s H Q := fun s H Q ⟨ρ, m, R, hs, M, h, q⟩ =>
  ⟨ρ, m, _, hs, M, h, fun x m1 v H1 h1 s1 M1 q1 => ⟨ρ, m1, _, hs.keep s1.keep, M1, h1, fun ys m2 a ws H2 h2 s2 M2 ha hm hH ry => hg H2 m2 x ys v a ws R Q M2 (q1.keep s2.keep) ha hm ry h2 (q.step (s1.trans s2))⟩⟩
theorem lNN {r : R2} {g : List D → List D → Mu → DK → Prop} {K : PySem.W.Frag} (hg : LiftNN K r g) : ∀ s H Q, lE K (dNN g t u) s H Q → tOp r (lL K t) (lL K u) s H Q := fun s H Q ⟨ρ, m, R, hs, M, h, q⟩ =>
  ⟨ρ, m, _, hs, M, h, fun xs m1 a vs H1 h1 s1 M1 ha hm hH rx => ⟨ρ, m1, _, hs.keep s1.keep, M1, h1, fun ys m2 b ws H2 h2 s2 M2 hb hmb hHb ry =>
    hg H2 m2 xs ys a vs b ws R Q M2 (s2.fr _ _ ha hm) (s2.noM hm ha) (rx.keep s2.keep) hb hmb ry h2 (q.step (s1.trans s2))⟩⟩
theorem de_cmp2N {op : CmpOp} {r : R2} {g : D → List D → Mu → DK → Prop} (ho : OpR X (compareOp op) r) (hg : Lift2N X.K r g) (ha : DE X a ta) (hb : DN X b t) (hm : behindInMarks op b = false) : DE X (.Compare a [op] [b] pos) (d2N g ta t) := ⟨(pe_cmpR ho ha.p hb.p hm).of (l2N hg)⟩
theorem de_cmpNN {op : CmpOp} {r : R2} {g : List D → List D → Mu → DK → Prop} (ho : OpR X (compareOp op) r) (hg : LiftNN X.K r g) (ha : DN X a t) (hb : DN X b u) (hm : behindInMarks op b = false) : DE X (.Compare a [op] [b] pos) (dNN g t u) := ⟨(pe_cmpR ho ha.p hb.p hm).of (lNN hg)⟩
theorem dt_of {op : CmpOp} {r : R2} {g : DTE} {tx ty : TE} (h : PT X (.Compare a [op] [b] pos) (tTest (tOp r tx ty))) (hl : ∀ s H Q, lE X.K g s H Q → tOp r tx ty s H Q) : DT X (.Compare a [op] [b] pos) (tBool g) :=
  ⟨h.of fun s H Q ⟨ρ, m, R, hs, M, h, q⟩ => by
    refine hl s H _ ⟨ρ, m, _, hs, M, h, fun x m1 v H1 h1 s1 M1 q1 => ?_⟩
    split at h1
    · rename_i c
      exact ⟨c, Rep.bl_.mp q1, q _ _ _ h1 s1 M1⟩
    · exact h1.elim⟩
theorem dt_cmp2N {op : CmpOp} {r : R2} {g : D → List D → Mu → DK → Prop} (ho : OpR X (compareOp op) r) (hg : Lift2N X.K r g) (ha : DE X a ta) (hb : DN X b t) (hm : behindInMarks op b = false) : DT X (.Compare a [op] [b] pos) (tBool (d2N g ta t)) := dt_of (pt_cmpR ho ha.p hb.p hm) (l2N hg)
theorem dt_cmpNN {op : CmpOp} {r : R2} {g : List D → List D → Mu → DK → Prop} (ho : OpR X (compareOp op) r) (hg : LiftNN X.K r g) (ha : DN X a t) (hb : DN X b u) (hm : behindInMarks op b = false) : DT X (.Compare a [op] [b] pos) (tBool (dNN g t u)) := dt_of (pt_cmpR ho ha.p hb.p hm) (lNN hg)
def gEqN (neg : Bool) : D → List D → Mu → DK → Prop := fun x ys m R => match py m deep x with
  | some p => match pyAll (py m deep) ys with
    | some qs => R (.bl (xor neg (PyData.eqv p (.list qs)))) m
    | none => False
  | none => False
def gEqNN (neg : Bool) : List D → List D → Mu → DK → Prop := fun xs ys m R => match pyAll (py m deep) xs with
  | some ps => match pyAll (py m deep) ys with
    | some qs => R (.bl (xor neg (PyData.eqv (.list ps) (.list qs)))) m
    | none => False
  | none => False
theorem list_shaped {m : Mu} {ds : List D} {ps : List PyData} (h : pyAll (py m deep) ds = some ps) : SeqAt.shaped (.list ps) = true := by
  obtain ⟨a, b⟩ := pyAll_shape (py_shape deep) h
  have e1 : (PyData.list ps).canLay0 = true := by simp [PyData.canLay0, a]
  have e2 : (PyData.list ps).depth ≤ 64 := by
    simp only [PyData.depth]
    unfold deep at b
    omega
  unfold SeqAt.shaped
  rw [e1, decide_eq_true e2]
  rfl
theorem lift_neN {K : PySem.W.Frag} : Lift2N K (rNeD K) (gEqN true) := fun H m x ys v a ws R Q M r1 ha hm ry h q => by
  unfold gEqN at h
  split at h
  · rename_i p ep
    split at h
    · rename_i z ez
      exact ⟨p, .list z, py_dp M _ _ _ _ ep r1, .lst (SqL.of ha) (pyAll_dp (py_dp M _) ez ry), py_shaped ep (by decide), list_shaped ez, q.here h M (Rep.bl_.mpr (by rw [Bool.true_xor]))⟩
    · exact h.elim
  · exact h.elim
theorem lift_eqNN {K : PySem.W.Frag} : LiftNN K (rEqD K) (gEqNN false) := fun H m xs ys a vs b ws R Q M ha hma rx hb hmb ry h q => by
  unfold gEqNN at h
  split at h
  · rename_i p ep
    split at h
    · rename_i z ez
      exact ⟨.list p, .list z, .lst (SqL.of ha) (pyAll_dp (py_dp M _) ep rx), .lst (SqL.of hb) (pyAll_dp (py_dp M _) ez ry), list_shaped ep, list_shaped ez, q.here h M (Rep.bl_.mpr (by rw [Bool.false_xor]))⟩
    · exact h.elim
  · exact h.elim
theorem lift_neNN {K : PySem.W.Frag} : LiftNN K (rNeD K) (gEqNN true) := fun H m xs ys a vs b ws R Q M ha hma rx hb hmb ry h q => by
  unfold gEqNN at h
  split at h
  · rename_i p ep
    split at h
    · rename_i z ez
      exact ⟨.list p, .list z, .lst (SqL.of ha) (pyAll_dp (py_dp M _) ep rx), .lst (SqL.of hb) (pyAll_dp (py_dp M _) ez ry), list_shaped ep, list_shaped ez, q.here h M (Rep.bl_.mpr (by rw [Bool.true_xor]))⟩
    · exact h.elim
  · exact h.elim
theorem de_neN (hr : Room k X.A) (ha : DE X a ta) (hb : DN X b t) : DE X (.Compare a [.NotEq] [b] pos) (d2N (gEqN true) ta t) := de_cmp2N (op_neD hr.units) lift_neN ha hb (nomark _)
theorem de_eqNN (hr : Room k X.A) (ha : DN X a t) (hb : DN X b u) : DE X (.Compare a [.Eq] [b] pos) (dNN (gEqNN false) t u) := de_cmpNN (op_eqD hr.units) lift_eqNN ha hb (nomark _)
theorem de_neNN (hr : Room k X.A) (ha : DN X a t) (hb : DN X b u) : DE X (.Compare a [.NotEq] [b] pos) (dNN (gEqNN true) t u) := de_cmpNN (op_neD hr.units) lift_neNN ha hb (nomark _)
theorem dt_neN (hr : Room k X.A) (ha : DE X a ta) (hb : DN X b t) : DT X (.Compare a [.NotEq] [b] pos) (tBool (d2N (gEqN true) ta t)) := dt_cmp2N (op_neD hr.units) lift_neN ha hb (nomark _)
theorem dt_eqNN (hr : Room k X.A) (ha : DN X a t) (hb : DN X b u) : DT X (.Compare a [.Eq] [b] pos) (tBool (dNN (gEqNN false) t u)) := dt_cmpNN (op_eqD hr.units) lift_eqNN ha hb (nomark _)
theorem dt_neNN (hr : Room k X.A) (ha : DN X a t) (hb : DN X b u) : DT X (.Compare a [.NotEq] [b] pos) (tBool (dNN (gEqNN true) t u)) := dt_cmpNN (op_neD hr.units) lift_neNN ha hb (nomark _)

/-! ### in, not in -/
def rInA (K : PySem.W.Frag) (neg : Bool) : R2 := fun x y H Q => ∃ d ds, Dp K H x d ∧ (Dp K H y (.list ds) ∨ Dp K H y (.tuple ds)) ∧ SeqAt.shaped d = true ∧ PyData.canLayAll0 ds = true ∧ Q (.bl (xor neg (ds.any fun z => PyData.eqv z d))) H
theorem room_in {A : Around} {ds : List PyData} {d : PyData} (h : SeqAt.shaped d = true) (hu : A.units + 65 < cLine) : A.units + 1 + min (PyData.depthAll ds) d.depth < cLine := by
  have h1 := SeqAt.depth_of_shaped h
  have h2 : min (PyData.depthAll ds) d.depth ≤ d.depth := Nat.min_le_right _ _
  omega
theorem op_inA (hu : X.A.units + 65 < cLine) : OpR X (compareOp .In) (rInA X.K false) := by
  intro pins s σ H x y v u Q I rx ry h
  obtain ⟨d, ds, hd, he, sd, se, q⟩ := h
  rw [Bool.false_xor] at q
  obtain ⟨as, r1⟩ := Dp.reads I d x v hd rx
  rcases he with he | he
  · obtain ⟨bs, r2⟩ := Dp.reads I (.list ds) y u he ry
    exact SeqAt.in_list_reads r2 r1 se (SeqAt.canLay_of_shaped sd) (room_in sd hu) ⟨.bl _, H, I, rfl, q⟩
  · obtain ⟨bs, r2⟩ := Dp.reads I (.tuple ds) y u he ry
    exact SeqAt.in_tuple_reads r2 r1 se (SeqAt.canLay_of_shaped sd) (room_in sd hu) ⟨.bl _, H, I, rfl, q⟩
def gIn (neg : Bool) : G2 := fun x y m R => match py m deep x with
  | some p => match seqOf m y with
    | some ds => match pyAll (py m deep) ds with
      | some qs => R (.bl (xor neg (qs.any fun z => PyData.eqv z p))) m
      | none => False
    | none => False
  | none => False
theorem lift_in {K : PySem.W.Frag} {neg : Bool} : Lift2 K (rInA K neg) (gIn neg) := fun H m x y v w R Q M r1 r2 h q => by
  unfold gIn at h
  split at h
  · rename_i p ep
    split at h
    · rename_i ds eds
      split at h
      · rename_i qs eqs
        obtain ⟨a, xs, rfl, hs, rx⟩ := seqOf_rep M r2 eds
        have hd := pyAll_dp (py_dp M deep) eqs rx
        refine ⟨p, qs, py_dp M _ _ _ _ ep r1, ?_, py_shaped ep (by decide), (pyAll_shape (py_shape deep) eqs).1, q.here h M (Rep.bl_.mpr rfl)⟩
        rcases hs with hs | hs
        · exact .inl (.lst hs hd)
        · exact .inr (.tup hs hd)
      · exact h.elim
    · exact h.elim
  · exact h.elim
theorem Room.units65 {A : Around} (hr : Room k A) : A.units + 65 < cLine := by have := hr.un; omega
theorem dt_in (hr : Room k X.A) (ha : DE X a ta) (hb : DE X b tb) (hm : behindInMarks .In b = false := by rfl) : DT X (.Compare a [.In] [b] pos) (tBool (d2 (gIn false) ta tb)) := dt_cmp (op_inA (Room.units65 hr)) lift_in ha hb hm
/-! ### power, shift, <= of tuples of ints -/
abbrev dPow := d2 (gI CPow fun i j => .int (i ^ j.toNat))
theorem de_pow (ha : DE X a ta) (hb : DE X b tb) : DE X (.BinOp a .Pow b pos) (dPow ta tb) := de_op op_pow lift_intC ha hb
def intsOf : List D → Option (List Int)
  | [] => some []
  | .int i :: ds => match intsOf ds with
    | some is => some (i :: is)
    | none => none
  | _ :: _ => none
theorem intsOf_map : ∀ {ds : List D} {ns : List Int}, intsOf ds = some ns → ds = ns.map D.int
  | [], ns, h => by unfold intsOf at h; cases h; rfl
  | .int i :: ds, ns, h => by
    unfold intsOf at h
    split at h
    · rename_i is e
      cases h
      rw [intsOf_map e]; rfl
    · cases h
  | .non :: ds, ns, h => by simp [intsOf] at h
  | .bl _ :: ds, ns, h => by simp [intsOf] at h
  | .str _ :: ds, ns, h => by simp [intsOf] at h
  | .tup _ :: ds, ns, h => by simp [intsOf] at h
  | .ref _ :: ds, ns, h => by simp [intsOf] at h
  | .ty _ :: ds, ns, h => by simp [intsOf] at h
  | .rl _ :: ds, ns, h => by simp [intsOf] at h
  | .exc _ _ :: ds, ns, h => by simp [intsOf] at h
  | .ktup _ :: ds, ns, h => by simp [intsOf] at h
def lexLe (ns ms : List Int) : Bool := Ob.lexAt (fun j => decide (ns.getD j 0 = ms.getD j 0)) (fun j => decide (ns.getD j 0 ≤ ms.getD j 0)) (decide (ns.length ≤ ms.length)) 0 (min ns.length ms.length)
/-- <= of ints or of tuples of ints -/
def gLe : G2 := fun x y m R => match x, y with
  | .int i, .int j => R (.bl (decide (i ≤ j))) m
  | .tup ds, .tup es => match intsOf ds with
    | some ns => match intsOf es with
      | some ms => R (.bl (lexLe ns ms)) m
      | none => False
    | none => False
  | _, _ => False
theorem lift_le {K : PySem.W.Frag} : Lift2 K (fun x y H Q => rI0 (fun i j => .bl (decide (i ≤ j))) x y H Q ∨ rLeT K x y H Q) gLe := fun H m x y v w R Q M r1 r2 h q => by
  unfold gLe at h
  split at h
  · rename_i i j
    exact .inl ⟨i, j, Rep.int_.mp r1, Rep.int_.mp r2, q.here h M (Rep.bl_.mpr rfl)⟩
  · rename_i ds es
    split at h
    · rename_i ns en
      split at h
      · rename_i ms em
        obtain ⟨a, xs, rfl, hx, rx⟩ := Rep.tup_.mp r1
        obtain ⟨b, ys, rfl, hy, ry⟩ := Rep.tup_.mp r2
        rw [intsOf_map en] at rx
        rw [intsOf_map em] at ry
        rw [rx.ints] at hx
        rw [ry.ints] at hy
        exact .inr ⟨a, b, ns, ms, rfl, rfl, hx, hy, q.here h M (Rep.bl_.mpr rfl)⟩
      · exact h.elim
    · exact h.elim
  · exact h.elim
abbrev dLeA := d2 gLe
theorem dt_leA (hr : Room k X.A) (ha : DE X a ta) (hb : DE X b tb) : DT X (.Compare a [.LtE] [b] pos) (tBool (dLeA ta tb)) := dt_cmp (op_le.or (op_leT hr.units0)) lift_le ha hb (nomark _)
end
end DL

/-! zip and enumerate over lists, tuples and texts in any mix -/
namespace DL
open PySem PySem.Spec PyProof.Rows L2

/-- what zip or enumerate walks -/
inductive Src where
  | lst (a : Addr)
  | tup (a : Addr)
  | txt (z : Str) (t : Tok)
def signs (z : Str) : List V := z.cps.toList.map fun c => V.str ⟨#[c]⟩
def Src.at (K : PySem.W.Frag) (H : Hp) (xs : List V) : Src → Prop
  | .lst a => SqL K H a xs
  | .tup a => SqT K H a xs
  | .txt z _ => xs = signs z
def Src.val : Src → Value
  | .lst a => .ref a
  | .tup a => .ref a
  | .txt z t => .str z t
def Src.ob : Src → Obj
  | .lst a => { cls := .type "list_iterator", data := .fields #[.ref a, .int 0 0] }
  | .tup a => { cls := .type "tuple_iterator", data := .fields #[.ref a, .int 0 0] }
  | .txt z t => { cls := .type (strIterType z), data := .fields #[.str z t, .int 0 0] }
/-- the iterator it stands at place i -/
def Src.it (it : Addr) (i : Nat) (h : Heap) : Src → Prop
  | .lst a => h.IsListIter it a i
  | .tup a => h.IsTupleIter it a i
  | .txt z t => h.IsStrIter it (strIterType z) z t i
def Src.ad : Src → List Addr
  | .lst a => [a]
  | .tup a => [a]
  | .txt _ _ => []
theorem Src.it_ob {src : Src} {it : Addr} {i : Nat} {h : Heap} (st : src.it it i h) : ∃ o, h.get? it = some o ∧ ∀ v, o.data ≠ .cell v := by
  cases src with
  | lst a => obtain ⟨o, e, c, d⟩ := st; exact ⟨o, e, fun v q => by rw [d] at q; cases q⟩
  | tup a => obtain ⟨o, e, c, d⟩ := st; exact ⟨o, e, fun v q => by rw [d] at q; cases q⟩
  | txt z t => obtain ⟨o, e, c, d⟩ := st; exact ⟨o, e, fun v q => by rw [d] at q; cases q⟩
theorem Src.it_at {src : Src} {it : Addr} {i : Nat} {h h' : Heap} (st : src.it it i h) (k : ∀ o, h.get? it = some o → h'.get? it = some o) : src.it it i h' := by
  cases src with
  | lst a => exact Heap.IsListIter.at st k
  | tup a => exact Heap.IsTupleIter.at st k
  | txt z t => obtain ⟨o, e, r⟩ := st; exact ⟨o, k o e, r⟩
theorem Src.it_new {src : Src} {it : Addr} {h : Heap} (e : h.get? it = some src.ob) : src.it it 0 h := by
  cases src with
  | lst a => exact ⟨_, e, rfl, rfl⟩
  | tup a => exact ⟨_, e, rfl, rfl⟩
  | txt z t => exact ⟨_, e, rfl, rfl⟩
section
variable {X : Cx} {pins : List (Addr × Obj)} {σ : L2.St} {H : Hp} {s : Shared}
theorem Src.inj {src : Src} {xs ys : List V} (I : Inv X pins σ H s) (h1 : src.at X.K H xs) (h2 : src.at X.K H ys) : xs = ys := by
  cases src with
  | lst a => exact I.list_inj h1 h2
  | tup a => exact I.tuple_inj h1 h2
  | txt z t => exact (show xs = signs z from h1).trans (show ys = signs z from h2).symm
theorem Src.lt {src : Src} {xs : List V} (I : Inv X pins σ H s) (h : src.at X.K H xs) : ∀ b ∈ src.ad, b < s.heap.objs.size := by
  intro b hb
  cases src with
  | lst a =>
    have e : b = a := by simpa [Src.ad] using hb
    subst e
    obtain ⟨its, _, p, _⟩ := I.list h
    exact p.lt
  | tup a =>
    have e : b = a := by simpa [Src.ad] using hb
    subst e
    obtain ⟨its, _, p, _⟩ := I.tuple h
    exact p.lt
  | txt z t => simp [Src.ad] at hb
/-- it draws the items -/
theorem Src.draws {A : Around} {src : Src} {it : Addr} {xs : List V} (hh : A.handled = none) (I : Inv X pins σ H s) (h : src.at X.K H xs) (hne : ∀ b ∈ src.ad, b ≠ it) :
    ∃ (P : Nat → Value → Prop) (St : Nat → Heap → Prop), Draws X.prog X.w A it (it :: src.ad) xs.length P St ∧ (∀ i, src.it it i s.heap → St i s.heap) ∧ (∀ i h, St i h → src.it it i h) ∧ (∀ i u, P i u → ∃ x, xs[i]? = some x ∧ RelV x u) := by
  cases src with
  | lst a =>
    obtain ⟨its, rv, p, hz⟩ := I.list h
    have hl : xs.length = its.toArray.size := by rw [List.size_toArray]; exact rv.length
    rw [hl]
    refine ⟨_, _, Draws.list hh it a (hne a (by simp [Src.ad])) its.toArray, fun i st => ⟨st, p.isList⟩, fun i h st => st.1, fun i u e => ?_⟩
    have e' : its[i]? = some u := by simpa using e
    exact paired_get' rv e'
  | tup a =>
    obtain ⟨its, rv, p, hz⟩ := I.tuple h
    have hl : xs.length = its.toArray.size := by rw [List.size_toArray]; exact rv.length
    rw [hl]
    refine ⟨_, _, Draws.tuple hh it a (hne a (by simp [Src.ad])) its.toArray, fun i st => ⟨st, p⟩, fun i h st => st.1, fun i u e => ?_⟩
    have e' : its[i]? = some u := by simpa using e
    exact paired_get' rv e'
  | txt z t =>
    have e : xs = signs z := h
    have hl : xs.length = z.cps.size := by rw [e]; simp [signs]
    rw [hl]
    refine ⟨_, _, Draws.text hh it z t, fun i st => st, fun i h st => st, fun i u ⟨c, t', e1, e2⟩ => ⟨.str ⟨#[c]⟩, ?_, t', e2⟩⟩
    rw [e]
    simp [signs, e1]
where
  paired_get' {xs : List V} {us : List Value} {i : Nat} {u : Value} (r : Vals xs us) (e : us[i]? = some u) : ∃ x, xs[i]? = some x ∧ RelV x u := by
    have hl := r.length
    have hi : i < us.length := (List.getElem?_eq_some_iff.mp e).1
    obtain ⟨u', e', r'⟩ := r.get (List.getElem?_eq_getElem (l := xs) (i := i) (by omega))
    rw [e] at e'
    cases e'
    exact ⟨_, List.getElem?_eq_getElem (by omega), r'⟩
theorem Src.begins (src : Src) : ∃ Hb : Heap → Prop, Begins src.val src.ob Hb ∧ ∀ {X : Cx} {pins : List (Addr × Obj)} {σ : L2.St} {H : Hp} {s : Shared} {xs : List V}, Inv X pins σ H s → src.at X.K H xs → Hb s.heap := by
  cases src with
  | lst a => exact ⟨fun h => ∃ items, h.IsList a items, ⟨fun prog w A E s Q ⟨items, hl⟩ h => wpAny_pyIter_list hl h, fun h h' ⟨items, x⟩ hk => ⟨items, x.at fun o e => hk a o e⟩, rfl⟩, fun I h => by
      obtain ⟨its, _, p, _⟩ := I.list h
      exact ⟨_, p.isList⟩⟩
  | tup a => exact ⟨fun h => ∃ items, h.IsTuple a items, ⟨fun prog w A E s Q ⟨items, hl⟩ h => wpAny_pyIter_tuple hl h, fun h h' ⟨items, x⟩ hk => ⟨items, x.at fun o e => hk a o e⟩, rfl⟩, fun I h => by
      obtain ⟨its, _, p, _⟩ := I.tuple h
      exact ⟨_, p⟩⟩
  | txt z t => exact ⟨fun _ => True, begins_text z t, fun _ _ => trivial⟩
end

/-! ### zip -/
def ItzS (K : PySem.W.Frag) (a b : Src) : It :=
  ⟨fun i H => ∃ (xs ys : List V), a.at K H xs ∧ b.at K H ys ∧ i < xs.length ∧ i < ys.length,
    fun i H v H' => ∃ T x y, v = .ref T ∧ H T = none ∧ H' = upd H T (.tup [x, y]) ∧ (∀ xs, a.at K H xs → xs[i]? = some x) ∧ ∀ ys, b.at K H ys → ys[i]? = some y,
    fun i H => ∃ xs ys : List V, a.at K H xs ∧ b.at K H ys ∧ i = min xs.length ys.length⟩
theorem turn_zipS {P : Program} {w : World} {K : PySem.W.Frag} {elts : List Expr} {kk : Nat} {tpos : Pos} {a b : Src} {z TI TO i1 i2 : Addr} (S : ZipSep2 z TI TO i1 i2 (i1 :: a.ad) (i2 :: b.ad)) (n1 : ∀ c ∈ a.ad, c ≠ i1) (n2 : ∀ c ∈ b.ad, c ≠ i2) :
    Turn P w K (.Tuple elts kk tpos) (ItzS K a b) [z, TI, TO, i1, i2] z (fun i h => IsZip h z TI TO .none ∧ IsTupOf2 h TI (.ref i1) (.ref i2) ∧ (∃ x y, IsTupOf2 h TO x y) ∧ a.it i1 i h ∧ b.it i2 i h) where
  mem := by simp
  obj := fun i h st c hc => by
    obtain ⟨hz, hTI, ⟨x, y, hTO⟩, s1, s2⟩ := st
    have e' : c = z ∨ c = TI ∨ c = TO ∨ c = i1 ∨ c = i2 := by simpa using hc
    rcases e' with q | q | q | q | q
    · rw [q]; exact ⟨_, hz, fun v q => nomatch q⟩
    · rw [q]; exact ⟨_, hTI, fun v q => nomatch q⟩
    · rw [q]; exact ⟨_, hTO, fun v q => nomatch q⟩
    · rw [q]; exact Src.it_ob (src := a) s1
    · rw [q]; exact Src.it_ob (src := b) s2
  keep := fun i h h' st k => by
    obtain ⟨hz, hTI, ⟨x, y, hTO⟩, h1, h2⟩ := st
    exact ⟨k z (by simp) _ hz, k TI (by simp) _ hTI, ⟨x, y, k TO (by simp) _ hTO⟩, Src.it_at (src := a) h1 fun o q => k i1 (by simp) o q, Src.it_at (src := b) h2 fun o q => k i2 (by simp) o q⟩
  item := by
    intro X hP hw hK hc i pins s σ H E I hf st hg
    subst hP hw hK
    obtain ⟨hz, hTI, ⟨x0, y0, hTO⟩, h1, h2⟩ := st
    obtain ⟨xs, ys, hqx, hqy, hx, hy⟩ := hg
    have hh : X.A.in1.handled = none := I.ok.hd hc
    obtain ⟨P1, St1, D1, d1, d1', p1⟩ := Src.draws (it := i1) hh I hqx n1
    obtain ⟨P2, St2, D2, d2, d2', p2⟩ := Src.draws (it := i2) hh I hqy n2
    have hzl : z < s.heap.objs.size := Heap.lt_size hz
    refine wpAny_pyNext_zipD2_item S D1 D2 hz hTI hTO (d1 i h1) (d2 i h2) hx hy fun u u2 h' tk y1 y2 z' TO' h1' h2' hT hsz hk => ?_
    refine ⟨_, rfl, wpAny_letOwnedTupleGo_zip (s := { s with heap := h', toks := tk }) z' fun h'' z'' sb => ?_⟩
    obtain ⟨x, ex, ru⟩ := p1 i u y1
    obtain ⟨y, ey, ru2⟩ := p2 i u2 y2
    have hT2 : h''.get? s.heap.objs.size = some { cls := .type "tuple", data := .seq #[u, u2] } := (sb.2 _ (Nat.ne_of_gt hzl)).trans hT
    have new : ObjOk X.prog X.w (upd H s.heap.objs.size (.tup [x, y])) h'' s.heap.objs.size (.tup [x, y]) :=
      ⟨by show 2 ≤ sizeLine; decide, [u, u2], .cons ru (.cons ru2 .nil), ⟨_, hT2, rfl, _, rfl⟩⟩
    have I1 : Inv X pins σ (upd H s.heap.objs.size (.tup [x, y])) { s with heap := h'', toks := tk } :=
      I.turnedNew (t' := tk) (ch := [z, TI, TO, i1, i2]) (fun c o hb q => (sb.2 c (fun q' => hb (by simp [q']))).trans (hk c o (fun q' => hb (by simp [q'])) (fun q' => hb (by simp [q'])) (fun q' => hb (by simp [q'])) (fun q' => hb (by simp [q'])) q)) hf (Nat.le_refl _) new
    refine ⟨.ref s.heap.objs.size, _, I1, rfl, ⟨_, x, y, rfl, I.hok.fresh (Nat.le_refl _), rfl, fun l hl => by rw [Src.inj I hl hqx]; exact ex, fun l hl => by rw [Src.inj I hl hqy]; exact ey⟩, ⟨z'', ?_, ⟨u, u2, ?_⟩, ?_, ?_⟩, fun c hcm => ?_⟩
    · exact (sb.2 _ S.TIz).trans (hk _ _ S.TIz S.TITO S.TIi1 S.TIi2 hTI)
    · exact (sb.2 _ S.TOz).trans TO'
    · exact Src.it_at (src := a) (d1' _ _ h1') fun o q => (sb.2 _ (Ne.symm S.zi1)).trans q
    · exact Src.it_at (src := b) (d2' _ _ h2') fun o q => (sb.2 _ (Ne.symm S.zi2)).trans q
    · have hlt : c < s.heap.objs.size := by
        have e' : c = z ∨ c = TI ∨ c = TO ∨ c = i1 ∨ c = i2 := by simpa using hcm
        rcases e' with q | q | q | q | q
        · rw [q]; exact hzl
        · rw [q]; exact Heap.lt_size hTI
        · rw [q]; exact Heap.lt_size hTO
        · rw [q]; obtain ⟨_, e1, _⟩ := Src.it_ob (src := a) h1; exact Heap.lt_size e1
        · rw [q]; obtain ⟨_, e2, _⟩ := Src.it_ob (src := b) h2; exact Heap.lt_size e2
      rw [upd_ne (Nat.ne_of_lt hlt)]
      exact (hf c hcm).1
  done := by
    intro X hP hw hK hc i pins s σ H E I hf st hg
    subst hP hw hK
    obtain ⟨hz, hTI, ⟨x0, y0, hTO⟩, h1, h2⟩ := st
    obtain ⟨xs, ys, hqx, hqy, hend⟩ := hg
    have hh : X.A.in1.handled = none := I.ok.hd hc
    obtain ⟨P1, St1, D1, d1, d1', p1⟩ := Src.draws (it := i1) hh I hqx n1
    obtain ⟨P2, St2, D2, d2, d2', p2⟩ := Src.draws (it := i2) hh I hqy n2
    exact wpAny_pyNext_zipD2_end S D1 D2 hz hTI hTO (d1 i h1) (d2 i h2) (by omega) (by omega) (by omega) fun h' tk hk => ⟨rfl, I.turnedL (t' := tk) (ch := [z, TI, TO, i1, i2]) (fun c o hb q =>
      hk c o (fun q' => hb (by simp [q'])) (fun q' => hb (by simp [q'])) (fun q' => hb (by simp [q'])) (fun q' => hb (by simp [q'])) q) hf⟩
  self := fun A i s Q E st h => wpAny_pyIter_zip st.1 h
def iZipS (K : PySem.W.Frag) (ta : TA) : TI := fun σ H R => ta σ H fun vs H1 => ∃ x y, vs = [x, y] ∧ ∀ u1 u2, RelV x u1 → RelV y u2 → ∃ a b xs ys, u1 = Src.val a ∧ u2 = Src.val b ∧ a.at K H1 xs ∧ b.at K H1 ys ∧ R (ItzS K a b) H1
theorem pi_zipS {X : Cx} {e e2 : Expr} {ta : TA} {p pos tpos : Pos} {elts : List Expr} {kk : Nat} (hg : Gl X "zip") (hm : X.mg "zip" = none) (ha : PA X [e, e2] ta)
    (hs : starEach [e, e2] X.env = (false, eval e X.env) :: starEach [e2] X.env := by rfl) (hpl : (backTo pos (starEach [e2] X.env)).any (·.1) = false := by rfl) :
    PI X (.Tuple elts kk tpos) (.Call (.Name "zip" p) [e, e2] [] pos) (iZipS X.K ta) := by
  refine ⟨fun pins s σ H R I h => ?_⟩
  refine Call_ (ld_blt I hg hm PyProof.Rows.boot_zip (PyProof.Rows.callWith_type1 (thn (ha.run pos pins s σ H _ I h) fun us s1 ⟨vs, H1, I1, r1, q1⟩ => ?_) hs hpl))
  obtain ⟨x, y, ex, q1⟩ := q1
  subst ex
  obtain ⟨u1, u2, rfl, rx, ry⟩ := Vals.two r1
  obtain ⟨a, b, xs, ys, rfl, rfl, hqx, hqy, q⟩ := q1 u1 u2 rx ry
  obtain ⟨Ha, Ba, ka⟩ := Src.begins a
  obtain ⟨Hb, Bb, kb⟩ := Src.begins b
  refine zip_begins2 Ba Bb (ka I1 hqx) (kb I1 hqy) fun h' hz hTI hTO h1 h2 hsz hk => wpAny_pyIter_zip hz ?_
  have I2 : Inv X pins σ H1 { s1 with heap := h' } := I1.kept (t' := s1.toks) hk
  have la := Src.lt I1 hqx
  have lb := Src.lt I1 hqy
  have S : ZipSep2 (s1.heap.objs.size + 4) (s1.heap.objs.size + 2) (s1.heap.objs.size + 3) s1.heap.objs.size (s1.heap.objs.size + 1) (s1.heap.objs.size :: a.ad) ((s1.heap.objs.size + 1) :: b.ad) := zip_sep2 la lb
  refine ⟨s1.heap.objs.size + 4, [s1.heap.objs.size + 4, s1.heap.objs.size + 2, s1.heap.objs.size + 3, s1.heap.objs.size, s1.heap.objs.size + 1], _, _, H1, rfl, I2,
    turn_zipS S (fun c hc => Nat.ne_of_lt (la c hc)) (fun c hc => Nat.ne_of_lt (Nat.lt_succ_of_lt (lb c hc))), ⟨hz, hTI, ⟨_, _, hTO⟩, Src.it_new h1, Src.it_new h2⟩, fun c hcm => ?_, q⟩
  have e' : c = s1.heap.objs.size + 4 ∨ c = s1.heap.objs.size + 2 ∨ c = s1.heap.objs.size + 3 ∨ c = s1.heap.objs.size ∨ c = s1.heap.objs.size + 1 := by simpa using hcm
  have hle : s1.heap.objs.size ≤ c := by
    rcases e' with z | z | z | z | z
    · rw [z]; exact Nat.le_add_right _ _
    · rw [z]; exact Nat.le_add_right _ _
    · rw [z]; exact Nat.le_add_right _ _
    · rw [z]; exact Nat.le_refl _
    · rw [z]; exact Nat.le_add_right _ _
  exact I1.fpOk hle (I1.hok.fresh hle)

/-! ### over data -/
/-- the items that a source gives, and what must stand -/
def rowIt (m : Mu) : D → Option DIt
  | .str z => some ⟨z.cps.toList.map fun c => D.str ⟨#[c]⟩, fun _ => True⟩
  | d => seqIt m d
theorem rep_signs {K : PySem.W.Frag} {H : Hp} (z : Str) : Reps K H (z.cps.toList.map fun c => D.str ⟨#[c]⟩) (signs z) := by
  unfold signs
  induction z.cps.toList with
  | nil => exact Reps.nil
  | cons c r ih => exact Reps.cons (Rep.str_.mpr rfl) ih
/-- a row as a source: its invariant -/
theorem rowIt_src {K : PySem.W.Frag} {H : Hp} {m : Mu} {d : D} {v : V} {it : DIt} {u : Value} (M : RepM K H m) (r : Rep K H d v) (h : rowIt m d = some it) (ru : RelV v u) :
    ∃ (src : Src) (inv : Hp → Mu → Prop), u = src.val ∧ inv H m ∧ (∀ H m H' m', Step K H m H' m' → inv H m → inv H' m') ∧ (it.guard m) ∧ ∀ H m, RepM K H m → inv H m → it.guard m → ∃ xs, src.at K H xs ∧ Reps K H it.items xs := by
  unfold rowIt at h
  split at h
  · rename_i z
    cases h
    obtain rfl := Rep.str_.mp r
    obtain ⟨t, rfl⟩ := ru
    exact ⟨.txt z t, fun _ _ => True, rfl, trivial, fun _ _ _ _ _ _ => trivial, trivial, fun H m M _ _ => ⟨signs z, rfl, rep_signs z⟩⟩
  · unfold seqIt at h
    split at h
    · cases h
      rename_i ds _
      obtain ⟨a, xs, rfl, hx, rx⟩ := Rep.tup_.mp r
      obtain rfl : u = Value.ref a := ru
      exact ⟨.tup a, fun H m => SqT K H a xs ∧ Reps K H ds xs, rfl, ⟨hx, rx⟩, fun H m H' m' st z => ⟨st.keep.t _ _ z.1, z.2.keep st.keep⟩, trivial, fun H m M hv _ => ⟨xs, hv⟩⟩
    · cases h
      rename_i ds _
      unfold Rep at r
      obtain ⟨a, xs, rfl, hx, rx⟩ := r
      obtain rfl : u = Value.ref a := ru
      exact ⟨.lst a, fun H m => RoL K H a xs ∧ Reps K H ds xs, rfl, ⟨hx, rx⟩, fun H m H' m' st z => ⟨st.keep.l _ _ z.1, z.2.keep st.keep⟩, trivial, fun H m M hv _ => ⟨xs, hv.1.sq, hv.2⟩⟩
    · rename_i a _
      split at h
      · cases h
        rename_i ds e
        obtain rfl := Rep.ref_.mp r
        obtain rfl : u = Value.ref a := ru
        refine ⟨.lst a, fun H m => True, rfl, trivial, fun _ _ _ _ _ _ => trivial, e, fun H m M _ hG => ?_⟩
        obtain ⟨xs, hx, rx⟩ := M a _ hG
        exact ⟨xs, SqL.of hx, rx⟩
      · cases h
    · cases h
def zipItems : List D → List D → List D
  | x :: xs, y :: ys => .tup [x, y] :: zipItems xs ys
  | _, _ => []
theorem zipItems_length : ∀ (xs ys : List D), (zipItems xs ys).length = min xs.length ys.length
  | [], ys => by simp [zipItems]
  | x :: xs, [] => by simp [zipItems]
  | x :: xs, y :: ys => by simp [zipItems, zipItems_length xs ys]
theorem zipItems_get : ∀ (xs ys : List D) (i : Nat) (x y : D), xs[i]? = some x → ys[i]? = some y → (zipItems xs ys)[i]? = some (.tup [x, y])
  | [], ys, i, x, y, h, _ => by simp at h
  | x :: xs, [], i, _, _, _, h => by simp at h
  | x :: xs, y :: ys, 0, a, b, h, h' => by simp at h h'; subst h; subst h'; rfl
  | x :: xs, y :: ys, i + 1, a, b, h, h' => by
    simp only [zipItems, List.getElem?_cons_succ]
    exact zipItems_get xs ys i a b (by simpa using h) (by simpa using h')
def iZip' (ta tb : DTE) : DTI := fun r m R => ta r m fun x m1 => tb r m1 fun y m2 => match rowIt m2 x with
  | some a => match rowIt m2 y with
    | some b => R ⟨zipItems a.items b.items, fun m => a.guard m ∧ b.guard m⟩ m2
    | none => False
  | none => False
theorem rep_pair {K : PySem.W.Frag} {H : Hp} {m : Mu} {T : Addr} {d e : D} {x y : V} (M : RepM K H m) (hT : H T = none) (r1 : Rep K H d x) (r2 : Rep K H e y) :
    Step K H m (upd H T (.tup [x, y])) m ∧ RepM K (upd H T (.tup [x, y])) m ∧ Rep K (upd H T (.tup [x, y])) (.tup [d, e]) (.ref T) :=
  ⟨Step.new hT, M.new hT, Rep.tup_.mpr ⟨T, _, rfl, upd_same, (Reps.cons r1 (Reps.one r2)).keep (Keep.new hT)⟩⟩
section
variable {X : Cx} {tg iter : Expr} {pos : Pos}
theorem di_zip {a b : Expr} {ta tb : DTE} {p tpos : Pos} {elts : List Expr} {kk : Nat} (hg : Gl X "zip") (hm : X.mg "zip" = none) (ha : DE X a ta) (hb : DE X b tb)
    (hs : starEach [a, b] X.env = (false, eval a X.env) :: starEach [b] X.env := by rfl) (hs2 : starEach [b] X.env = (false, eval b X.env) :: starEach [] X.env := by rfl) (hpl : (backTo pos (starEach [b] X.env)).any (·.1) = false := by rfl) :
    DI X (.Tuple elts kk tpos) (.Call (.Name "zip" p) [a, b] [] pos) (iZip' ta tb) :=
  ⟨(pi_zipS hg hm (pa_cons ha.p (pa_cons hb.p pa_nil hs2) hs) hs hpl).of fun s H R ⟨r, m, RR, hs, M, h, q⟩ => ⟨r, m, _, hs, M, h, fun x m1 v H1 h1 s1 M1 q1 => ⟨r, m1, _, hs.keep s1.keep, M1, h1, fun y m2 w H2 h2 s2 M2 q2 => by
    refine ⟨v, w, rfl, fun u1 u2 e1 e2 => ?_⟩
    split at h2
    · rename_i ia ea
      split at h2
      · rename_i ib eb
        obtain ⟨sa, inva, rfl, a0, as, ag, aq⟩ := rowIt_src M2 (q1.keep s2.keep) ea e1
        obtain ⟨sb, invb, rfl, b0, bs, bg, bq⟩ := rowIt_src M2 q2 eb e2
        obtain ⟨xs, hx, rx⟩ := aq H2 m2 M2 a0 ag
        obtain ⟨ys, hy, ry⟩ := bq H2 m2 M2 b0 bg
        refine ⟨sa, sb, xs, ys, rfl, rfl, hx, hy, q _ _ _ _ (fun H m => inva H m ∧ invb H m) h2 (s1.trans s2) M2 ⟨⟨a0, b0⟩, fun H m H' m' st z => ⟨as _ _ _ _ st z.1, bs _ _ _ _ st z.2⟩, fun i H m M hv hG hi => ?_, fun H m M hv hG => ?_, fun i H m x H' M hv hG hi y => ?_⟩⟩
        · obtain ⟨xs, hx, rx⟩ := aq H m M hv.1 hG.1
          obtain ⟨ys, hy, ry⟩ := bq H m M hv.2 hG.2
          have hi' : i < min ia.items.length ib.items.length := by rw [← zipItems_length]; exact hi
          exact ⟨xs, ys, hx, hy, by rw [← rx.length]; omega, by rw [← ry.length]; omega⟩
        · obtain ⟨xs, hx, rx⟩ := aq H m M hv.1 hG.1
          obtain ⟨ys, hy, ry⟩ := bq H m M hv.2 hG.2
          exact ⟨xs, ys, hx, hy, by rw [zipItems_length, rx.length, ry.length]⟩
        · obtain ⟨xs, hx, rx⟩ := aq H m M hv.1 hG.1
          obtain ⟨ys, hy, ry⟩ := bq H m M hv.2 hG.2
          obtain ⟨T, x1, x2, rfl, hT, rfl, f1, f2⟩ := y
          obtain ⟨d1, e1, r1⟩ := rx.get' (f1 xs hx)
          obtain ⟨d2, e2, r2⟩ := ry.get' (f2 ys hy)
          exact ⟨.tup [d1, d2], zipItems_get _ _ _ _ _ e1 e2, rep_pair M hT r1 r2⟩
      · exact h2.elim
    · exact h2.elim⟩⟩⟩
end
end DL

namespace DL
open PySem PySem.Spec PyProof.Rows L2

/-! ### slices -/
abbrev DTO := DSt → Mu → (Option Int → Mu → Prop) → Prop
def lO (K : PySem.W.Frag) (t : DTO) : TO := fun s H Q => ∃ r m R, RepS K H r s ∧ RepM K H m ∧ t r m R ∧ ∀ o m' H', R o m' → Step K H m H' m' → RepM K H' m' → Q o H'
structure DO' (X : Cx) (e : Option Expr) (t : DTO) : Prop where
  p : PO X e (lO X.K t)
theorem _root_.L2.PO.of {X : Cx} {e : Option Expr} {t t' : TO} (h : PO X e t') (i : ∀ s H Q, t s H Q → t' s H Q) : PO X e t := ⟨fun pins s σ H Q I q => h.run pins s σ H Q I (i _ _ _ q)⟩
section
variable {X : Cx} {a b c e o : Expr} {es : List Expr} {ta tb tc te to : DTE} {t u : DTA} {lo hi : Option Expr} {tl th : DTO} {pos p p2 : Pos} {k : Nat}
def oNone : DTO := fun _ m R => R none m
def oSome (te : DTE) : DTO := fun r m R => te r m fun x m1 => match x with
  | .int i => R (some i) m1
  | _ => False
theorem do_none : DO' X none oNone := ⟨po_none.of fun s H Q ⟨r, m, R, hs, M, h, q⟩ => q _ _ _ h (Step.refl _ H m) M⟩
theorem do_some (h : DE X e te) : DO' X (some e) (oSome te) := ⟨(po_some h.p).of fun s H Q ⟨r, m, R, hs, M, h, q⟩ => ⟨r, m, _, hs, M, h, fun x m1 v H1 h1 s1 M1 q1 => by
  split at h1
  · rename_i i
    exact ⟨i, Rep.int_.mp q1, q _ _ _ h1 s1 M1⟩
  · exact h1.elim⟩⟩
def cutD (xs : List D) (lo hi : Option Int) : List D := (xs.drop (HT.sIx xs.length 0 lo)).take (HT.sIx xs.length xs.length hi - HT.sIx xs.length 0 lo)
theorem Reps.cut {K : PySem.W.Frag} {H : Hp} {ds : List D} {vs : List V} (h : Reps K H ds vs) (lo hi : Option Int) : Reps K H (cutD ds lo hi) (cutV vs lo hi) := by
  unfold cutD cutV
  rw [h.length]
  exact (h.drop _).take _
/-- a slice: of a text, of a tuple; of a list a new list -/
def gCut (lo hi : Option Int) : D → Mu → DK → Prop := fun x m R => match x with
  | .str z => z.length ≤ sizeLine ∧ R (.str (cutS z lo hi)) m
  | .tup ds => R (.tup (cutD ds lo hi)) m
  | x => match seqOf m x with
    | some ds => ∀ a, m a = none → R (.ref a) (mput m a (.lst (cutD ds lo hi)))
    | none => False
def dCut (te : DTE) (tl th : DTO) : DTE := fun r m R => te r m fun x m1 => tl r m1 fun l m2 => th r m2 fun u m3 => gCut l u x m3 R
theorem seqOf_list {K : PySem.W.Frag} {H : Hp} {m : Mu} {x : D} {v : V} {ds : List D} (M : RepM K H m) (r : Rep K H x v) (h : seqOf m x = some ds) (ht : ∀ ds, x ≠ .tup ds) : ∃ a xs, v = .ref a ∧ SqL K H a xs ∧ Reps K H ds xs := by
  unfold seqOf at h
  split at h
  · exact absurd rfl (ht _)
  · cases h
    unfold Rep at r
    obtain ⟨p, xs, e, q, r⟩ := r
    exact ⟨p, xs, e, q.sq, r⟩
  · split at h
    · cases h
      rename_i e
      obtain ⟨xs, hx, rx⟩ := M _ _ e
      exact ⟨_, xs, Rep.ref_.mp r, SqL.of hx, rx⟩
    · cases h
  · cases h
theorem de_cut (he : DE X e te) (hl : DO' X lo tl) (hu : DO' X hi th) : DE X (.Subscript e (.Slice lo hi none p2) pos) (dCut te tl th) :=
  ⟨(pe_slice (sl_list.or (sl_tupA.or sl_str)) he.p hl.p hu.p).of fun s H Q ⟨r, m, R, hs, M, h, q⟩ => ⟨r, m, _, hs, M, h, fun x m1 v H1 h1 s1 M1 q1 => ⟨r, m1, _, hs.keep s1.keep, M1, h1, fun l m2 H2 h2 s2 M2 => ⟨r, m2, _, hs.keep (s1.trans s2).keep, M2, h2, fun u m3 H3 h3 s3 M3 => by
    have st := (s1.trans s2).trans s3
    have r3 := q1.keep (s2.trans s3).keep
    unfold gCut at h3
    split at h3
    · rename_i z
      obtain rfl := Rep.str_.mp r3
      exact .inr (.inr ⟨z, rfl, h3.1, q _ _ _ _ h3.2 st M3 (Rep.str_.mpr rfl)⟩)
    · rename_i ds
      obtain ⟨a, xs, rfl, hn, rx⟩ := Rep.tup0.mp r3
      have hx : SqT X.K H3 a xs := hn.sq
      refine .inr (.inl ⟨a, xs, rfl, hx, fun w => ?_, fun w p hp => q _ _ _ _ h3 (st.trans (Step.new hp)) (M3.new hp) (Rep.tup_.mpr ⟨p, _, rfl, upd_same, (rx.cut l u).keep (Keep.new hp)⟩)⟩)
      refine q _ _ _ _ h3 st M3 (Rep.tup0.mpr ⟨a, xs, rfl, hn, ?_⟩)
      have e : cutV xs l u = xs := by
        unfold cutV
        rw [w.1, w.2]
        simp
      have := rx.cut l u
      rw [e] at this
      exact this
    · rename_i hn1 hn2
      split at h3
      · rename_i ds eds
        obtain ⟨a, xs, rfl, hx, rx⟩ := seqOf_list M3 r3 eds (fun ds e => hn2 ds e)
        exact .inl ⟨a, xs, rfl, hx, fun p hp => q _ _ _ _ (h3 p (M3.free hp)) (st.trans (Step.newM hp)) (M3.newM hp ⟨_, upd_same, (rx.cut l u).keep (Keep.new hp)⟩) (Rep.ref_.mpr rfl)⟩
      · exact h3.elim⟩⟩⟩⟩
/-- a slice of a list, as a new list -/
def nCut (te : DTE) (tl th : DTO) : DTA := fun r m R => te r m fun x m1 => tl r m1 fun l m2 => th r m2 fun u m3 => match x with
  | .tup _ => False
  | x => match seqOf m3 x with
    | some ds => R (cutD ds l u) m3
    | none => False
theorem dn_cut (he : DE X e te) (hl : DO' X lo tl) (hu : DO' X hi th) : DN X (.Subscript e (.Slice lo hi none p2) pos) (nCut te tl th) :=
  ⟨(pe_slice sl_list he.p hl.p hu.p).of fun s H Q ⟨r, m, R, hs, M, h, q⟩ => ⟨r, m, _, hs, M, h, fun x m1 v H1 h1 s1 M1 q1 => ⟨r, m1, _, hs.keep s1.keep, M1, h1, fun l m2 H2 h2 s2 M2 => ⟨r, m2, _, hs.keep (s1.trans s2).keep, M2, h2, fun u m3 H3 h3 s3 M3 => by
    have st := (s1.trans s2).trans s3
    have r3 := q1.keep (s2.trans s3).keep
    split at h3
    · exact h3.elim
    · rename_i hn2
      split at h3
      · rename_i ds eds
        obtain ⟨a, xs, rfl, hx, rx⟩ := seqOf_list M3 r3 eds (fun ds e => hn2 ds e)
        exact ⟨a, xs, rfl, hx, fun p hp => q _ _ _ _ _ h3 (st.trans (Step.new hp)) (M3.new hp) upd_same (M3.free hp) (st.th _ hp) ((rx.cut l u).keep (Keep.new hp))⟩
      · exact h3.elim⟩⟩⟩⟩
/-- a slice of a new list -/
def nCutN (t : DTA) (tl th : DTO) : DTA := fun r m R => t r m fun ds m1 => tl r m1 fun l m2 => th r m2 fun u m3 => R (cutD ds l u) m3
theorem dn_cutN (he : DN X e t) (hl : DO' X lo tl) (hu : DO' X hi th) : DN X (.Subscript e (.Slice lo hi none p2) pos) (nCutN t tl th) :=
  ⟨(pe_slice sl_list he.p hl.p hu.p).of fun s H Q ⟨r, m, R, hs, M, h, q⟩ => ⟨r, m, _, hs, M, h, fun ds m1 a xs H1 h1 s1 M1 ha hm hH rx => ⟨r, m1, _, hs.keep s1.keep, M1, h1, fun l m2 H2 h2 s2 M2 => ⟨r, m2, _, hs.keep (s1.trans s2).keep, M2, h2, fun u m3 H3 h3 s3 M3 => by
    have st := (s1.trans s2).trans s3
    have ha3 := (s2.trans s3).fr _ _ ha hm
    exact ⟨a, xs, rfl, SqL.of ha3, fun p hp => q _ _ _ _ _ h3 (st.trans (Step.new hp)) (M3.new hp) upd_same (M3.free hp) (st.th _ hp) (((rx.keep (s2.trans s3).keep).cut l u).keep (Keep.new hp))⟩⟩⟩⟩⟩
/-- xs[::-1] of a list -/
def nRev (te : DTE) : DTA := fun r m R => te r m fun x m1 => match x with
  | .tup _ => False
  | x => match seqOf m1 x with
    | some ds => R ds.reverse m1
    | none => False
theorem dn_rev {j : Nat} {p1 p3 : Pos} (he : DE X e te) : DN X (.Subscript e (.Slice none none (some (.UnaryOp .USub (.Constant (.int 1) j p1) p2)) p3) pos) (nRev te) :=
  ⟨(pe_revL he.p).of fun s H Q ⟨r, m, R, hs, M, h, q⟩ => ⟨r, m, _, hs, M, h, fun x m1 v H1 h1 s1 M1 q1 => by
    split at h1
    · exact h1.elim
    · rename_i hn2
      split at h1
      · rename_i ds eds
        obtain ⟨a, xs, rfl, hx, rx⟩ := seqOf_list M1 q1 eds (fun ds e => hn2 ds e)
        exact ⟨a, xs, rfl, hx, fun p hp => q _ _ _ _ _ h1 (s1.trans (Step.new hp)) (M1.new hp) upd_same (M1.free hp) (s1.th _ hp) (rx.reverse.keep (Keep.new hp))⟩
      · exact h1.elim⟩⟩
/-! ### lists put together -/
def nCatNN (t u : DTA) : DTA := fun r m R => t r m fun xs m1 => u r m1 fun ys m2 => xs.length + ys.length ≤ sizeLine ∧ R (xs ++ ys) m2
theorem dn_catNN (ha : DN X a t) (hb : DN X b u) : DN X (.BinOp a .Add b pos) (nCatNN t u) :=
  ⟨(pe_op op_cat ha.p hb.p).of fun s H Q ⟨r, m, R, hs, M, h, q⟩ => ⟨r, m, _, hs, M, h, fun xs m1 a vs H1 h1 s1 M1 ha hm hH rx => ⟨r, m1, _, hs.keep s1.keep, M1, h1, fun ys m2 b ws H2 h2 s2 M2 hb hmb hHb ry => by
    have st := s1.trans s2
    have rx2 := rx.keep s2.keep
    exact ⟨a, b, vs, ws, rfl, rfl, s2.fr _ _ ha hm, hb, by rw [← rx.length, ← ry.length]; exact h2.1, fun p hp => q _ _ _ _ _ h2.2 (st.trans (Step.new hp)) (M2.new hp) upd_same (M2.free hp) (st.th _ hp) ((rx2.append ry).keep (Keep.new hp))⟩⟩⟩⟩
/-- a list that is held, and a new one -/
def nCatEN (ta : DTE) (u : DTA) : DTA := fun r m R => ta r m fun x m1 => u r m1 fun ys m2 => match x with
  | .ref a => match m2 a with
    | some (.lst xs) => xs.length + ys.length ≤ sizeLine ∧ R (xs ++ ys) m2
    | _ => False
  | _ => False
theorem dn_catEN (ha : DE X a ta) (hb : DN X b u) : DN X (.BinOp a .Add b pos) (nCatEN ta u) :=
  ⟨(pe_op op_cat ha.p hb.p).of fun s H Q ⟨r, m, R, hs, M, h, q⟩ => ⟨r, m, _, hs, M, h, fun x m1 v H1 h1 s1 M1 q1 => ⟨r, m1, _, hs.keep s1.keep, M1, h1, fun ys m2 b ws H2 h2 s2 M2 hb hmb hHb ry => by
    have st := s1.trans s2
    split at h2
    · rename_i a
      split at h2
      · rename_i xs ex
        obtain rfl := Rep.ref_.mp q1
        obtain ⟨vs, hv, rv⟩ := M2 _ _ ex
        exact ⟨a, b, vs, ws, rfl, rfl, hv, hb, by rw [← rv.length, ← ry.length]; exact h2.1, fun p hp => q _ _ _ _ _ h2.2 (st.trans (Step.new hp)) (M2.new hp) upd_same (M2.free hp) (st.th _ hp) ((rv.append ry).keep (Keep.new hp))⟩
      · exact h2.elim
    · exact h2.elim⟩⟩⟩
/-- a new list so many times -/
def nRep (t : DTA) (tb : DTE) : DTA := fun r m R => t r m fun xs m1 => tb r m1 fun y m2 => match y with
  | .int k => (-(2 ^ 63) ≤ k ∧ k < 2 ^ 63 ∧ xs.length * k.toNat ≤ sizeLine) ∧ R (List.replicate k.toNat xs).flatten m2
  | _ => False
theorem dn_rep (ha : DN X a t) (hb : DE X b tb) : DN X (.BinOp a .Mult b pos) (nRep t tb) :=
  ⟨(pe_op op_rep ha.p hb.p).of fun s H Q ⟨r, m, R, hs, M, h, q⟩ => ⟨r, m, _, hs, M, h, fun xs m1 a vs H1 h1 s1 M1 ha hm hH rx => ⟨r, m1, _, hs.keep s1.keep, M1, h1, fun y m2 w H2 h2 s2 M2 q2 => by
    have st := s1.trans s2
    split at h2
    · rename_i k
      obtain rfl := Rep.int_.mp q2
      exact ⟨a, k, vs, rfl, rfl, s2.fr _ _ ha hm, h2.1.1, h2.1.2.1, by rw [← rx.length]; exact h2.1.2.2, fun p hp => q _ _ _ _ _ h2.2 (st.trans (Step.new hp)) (M2.new hp) upd_same (M2.free hp) (st.th _ hp) (((rx.keep s2.keep).rep _).keep (Keep.new hp))⟩
    · exact h2.elim⟩⟩⟩
/-- an item of a new list -/
def dIxN (t : DTA) (tb : DTE) : DTE := fun r m R => t r m fun xs m1 => tb r m1 fun y m2 => match y with
  | .int i => match atI xs i with
    | some d => R d m2
    | none => False
  | _ => False
theorem de_atN (ha : DN X a t) (hb : DE X b tb) (hs : PlainIx b := by exact fun _ _ => rfl) : DE X (.Subscript a b pos) (dIxN t tb) :=
  ⟨(pe_ix ix_list ha.p hb.p hs).of fun s H Q ⟨r, m, R, hs, M, h, q⟩ => ⟨r, m, _, hs, M, h, fun xs m1 a vs H1 h1 s1 M1 ha hm hH rx => ⟨r, m1, _, hs.keep s1.keep, M1, h1, fun y m2 w H2 h2 s2 M2 q2 => by
    split at h2
    · rename_i i
      obtain rfl := Rep.int_.mp q2
      split at h2
      · rename_i d e
        obtain ⟨v, ev, rv⟩ := atI_rep rx e
        exact ⟨a, vs, i, v, rfl, rfl, SqL.of (s2.fr _ _ ha hm), ev, q _ _ _ _ h2 (s1.trans s2) M2 (rv.keep s2.keep)⟩
      · exact h2.elim
    · exact h2.elim⟩⟩⟩
end
end DL

namespace DL
open PySem PySem.Spec PyProof.Rows L2

/-! ### chains -/
section
variable {X : Cx} {a b c e o : Expr} {es : List Expr} {ta tb tc te to : DTE} {t u : DTA} {pos p p2 : Pos} {k : Nat}
/-! ### a row of any kind, walked -/
def iRowV (K : PySem.W.Frag) (tl : TE) : TI := fun σ H R => tl σ H fun x H1 => ((∃ a, x = .ref a ∧ (∃ xs, SqL K H1 a xs) ∧ R (Itl K a) H1) ∨ ∃ a, x = .ref a ∧ (∃ xs, SqT K H1 a xs) ∧ R (Itt K a) H1) ∨ ∃ z, x = .str z ∧ R (Its z) H1
theorem pi_row {tg l : Expr} {tl : TE} (hl : PE X l tl) : PI X tg l (iRowV X.K tl) := by
  refine ⟨fun pins s σ H R I h => ?_⟩
  refine thn (hl.run pins s σ H _ I h) fun v s1 ⟨x, H1, I1, r1, q1⟩ => ?_
  rcases q1 with (⟨a, e, ⟨xs, hq⟩, q⟩ | ⟨a, e, ⟨xs, hq⟩, q⟩) | ⟨z, e, q⟩
  · subst e
    cases r1
    obtain ⟨its, rv, p, hz⟩ := I1.list hq
    refine wpAny_pyIter_list p.isList ?_
    refine ⟨s1.heap.objs.size, [s1.heap.objs.size], _, _, H1, rfl, I1.kept (t' := s1.toks) fun b o e => Heap.get?_push_of_some _ e, turn_list a _, ⟨_, Heap.get?_push_size _ rfl, rfl, rfl⟩, fun b hb => ?_, q⟩
    have e : b = s1.heap.objs.size := by simpa using hb
    subst e
    exact I1.fpOk (Nat.le_refl _) (I1.hok.fresh (Nat.le_refl _))
  · subst e
    cases r1
    obtain ⟨its, rv, p, hz⟩ := I1.tuple hq
    refine wpAny_pyIter_tuple (show s1.heap.IsTuple a its.toArray from p) ?_
    refine ⟨s1.heap.objs.size, [s1.heap.objs.size], _, _, H1, rfl, I1.kept (t' := s1.toks) fun b o e => Heap.get?_push_of_some _ e, turn_tuple a _, ⟨_, Heap.get?_push_size _ rfl, rfl, rfl⟩, fun b hb => ?_, q⟩
    have e : b = s1.heap.objs.size := by simpa using hb
    subst e
    exact I1.fpOk (Nat.le_refl _) (I1.hok.fresh (Nat.le_refl _))
  · subst e
    obtain ⟨t, rfl⟩ := r1
    refine wpAny_pyIter_strU ?_
    refine ⟨s1.heap.objs.size, [s1.heap.objs.size], _, _, H1, rfl, I1.kept (t' := s1.toks) fun b o e => Heap.get?_push_of_some _ e, turn_str s1.heap.objs.size z t (strIterType z) (by unfold strIterType; split <;> simp), ⟨_, Heap.get?_push_size _ rfl, rfl, rfl⟩, fun b hb => ?_, q⟩
    have e : b = s1.heap.objs.size := by simpa using hb
    subst e
    exact I1.fpOk (Nat.le_refl _) (I1.hok.fresh (Nat.le_refl _))
def iRow (te : DTE) : DTI := fun r m R => te r m fun x m1 => match rowIt m1 x with
  | some it => R it m1
  | none => False
theorem di_row {tg l : Expr} (hl : DE X l te) : DI X tg l (iRow te) :=
  ⟨(pi_row hl.p).of fun s H R ⟨r, m, RR, hs, M, h, q⟩ => by
    refine ⟨r, m, _, hs, M, h, fun x m1 v H1 h1 s1 M1 q1 => ?_⟩
    unfold rowIt at h1
    split at h1
    · rename_i it e
      split at e
      · rename_i z
        cases e
        obtain rfl := Rep.str_.mp q1
        refine .inr ⟨z, rfl, q _ _ _ _ (fun _ _ => True) h1 s1 M1 ⟨trivial, fun _ _ _ _ _ _ => trivial, fun i H m M hv hG hi => ?_, fun H m M hv hG => ?_, fun i H m x H' M hv hG hi y => ?_⟩⟩
        · show i < z.cps.size
          simpa using hi
        · show z.cps.size ≤ _
          simp
        · obtain ⟨rfl, c, ec, rfl⟩ := y
          exact ⟨.str ⟨#[c]⟩, by simp [ec], Step.refl _ _ m, M, Rep.str_.mpr rfl⟩
      · refine .inl ?_
        unfold seqIt at e
        split at e
        · cases e
          rename_i ds _
          obtain ⟨a, xs, rfl, hx, rx⟩ := Rep.tup_.mp q1
          exact .inr ⟨a, rfl, ⟨xs, hx⟩, q _ _ _ _ _ h1 s1 M1 (itl_tup rfl (fun H m => SqT X.K H a xs ∧ Reps X.K H ds xs) ⟨hx, rx⟩ (fun H m H' m' st z => ⟨st.keep.t _ _ z.1, z.2.keep st.keep⟩) fun H m M hv _ => ⟨xs, hv⟩)⟩
        · cases e
          rename_i ds _
          unfold Rep at q1
          obtain ⟨a, xs, rfl, hx, rx⟩ := q1
          exact .inl ⟨a, rfl, ⟨xs, hx.sq⟩, q _ _ _ _ _ h1 s1 M1 (itl_list rfl (fun H m => RoL X.K H a xs ∧ Reps X.K H ds xs) ⟨hx, rx⟩ (fun H m H' m' st z => ⟨st.keep.l _ _ z.1, z.2.keep st.keep⟩) fun H m M hv _ => ⟨xs, hv.1.sq, hv.2⟩)⟩
        · rename_i a _
          split at e
          · cases e
            rename_i ds e
            obtain rfl := Rep.ref_.mp q1
            obtain ⟨xs, hx, rx⟩ := M1 a _ e
            refine .inl ⟨a, rfl, ⟨xs, SqL.of hx⟩, q _ _ _ _ _ h1 s1 M1 (itl_list rfl (fun H m => True) trivial (fun _ _ _ _ _ _ => trivial) fun H m M hv hG => ?_)⟩
            obtain ⟨xs, hx, rx⟩ := M a _ hG
            exact ⟨xs, SqL.of hx, rx⟩
          · cases e
        · cases e
    · exact h1.elim⟩
/-! ### xs.extend(ys), both held; xs.insert(i, y) -/
def gExt : D → List D → Mu → DK → Prop := fun x ds m R => match x, ds with
  | .ref a, [.ref b] => match m a with
    | some (.lst xs) => match m b with
      | some (.lst ys) => xs.length + ys.length ≤ sizeLine ∧ R .non (mput m a (.lst (xs ++ ys)))
      | _ => False
    | _ => False
  | _, _ => False
theorem de_ext {apos cpos : Pos} (ho : DE X o to) (ha : DA X [e] t) (hbase : attributeBase o "extend" X.env (eval o X.env) = eval o X.env := by rfl)
    (hfew : ((backTo cpos (starEach [e] X.env)).all (fun x => !x.1) && (backToKw cpos (keywordEach [] X.env)).all (fun x => x.1.isSome)
      && decide ([e].length + ([] : List Keyword).length + (if ([] : List Keyword).isEmpty then 0 else 1) < 30)) = true := by rfl)
    (hline : (apos.endLine == cpos.line) = true := by rfl) (hs : starEach [e] X.env = (false, eval e X.env) :: starEach [] X.env := by rfl) (hplain : (backTo cpos (starEach [] X.env)).any (·.1) = false := by rfl) :
    DE X (.Call (.Attribute o "extend" apos) [e] [] cpos) (dM gExt to t) :=
  de_m PySem.F.slot_list_extend PySem.F.type_list_extend mt_extend (fun H m d ds v vs R Q M rd rds h q => by
    unfold gExt at h
    split at h
    · rename_i a b
      split at h
      · rename_i xs ex
        split at h
        · rename_i ys ey
          obtain rfl := Rep.ref_.mp rd
          obtain ⟨y, rfl, ry⟩ := rds.one_
          obtain rfl := Rep.ref_.mp ry
          obtain ⟨zs, hz, rz⟩ := M _ _ ex
          obtain ⟨ws, hw, rw'⟩ := M _ _ ey
          exact ⟨a, b, zs, ws, rfl, rfl, hz, hw, by rw [← rz.length, ← rw'.length]; exact h.1, q _ _ _ _ h.2 (Step.wr hz Mut.lst ex) (M.wr hz Mut.lst ⟨_, upd_same, (rz.append rw').keep (Keep.wr hz Mut.lst)⟩) (Rep.non_.mpr rfl)⟩
        · exact h.elim
      · exact h.elim
    · exact h.elim) ho ha hbase hfew hline hs hplain
end

/-! ### a def of the text, by its promise over data -/
structure Def (P : Program) (w : World) (K : PySem.W.Frag) (mg : Str → Option Value) (base : Heap) (x : Str) (k : Nat) (ps : List Str) (sp : DSp) : Prop where
  ex : ∃ (f : Addr) (fd : FuncData), FnOk P w K mg base CX0 k f fd ps (lSp K sp) ∧ mg x = some (.ref f) ∧ PySem.W.keepIn K (.ref f) = true ∧ Binds K fd ps [] ∧ ∃ (oc : Value) (od : Option Addr) (osl : Array (Option Value)), K.lookup f = some ⟨oc, od, .func fd, osl⟩
theorem Fun.look {K : PySem.W.Frag} {x qual : Str} {st : Stmt} {f : Addr} {fd : FuncData} (F : Fun K x qual st f fd) : ∃ (oc : Value) (od : Option Addr) (osl : Array (Option Value)), K.lookup f = some ⟨oc, od, .func fd, osl⟩ := by
  obtain ⟨oc, od, kV, doc, pm, an, cdv, ct, osl, e, lk, _⟩ := F.ex
  exact ⟨oc, od, osl, lk⟩
theorem de_callD {X : Cx} {k : Nat} {x : Str} {ps : List Str} {sp : DSp} {e : Expr} {es : List Expr} {t : DTA} {p pos : Pos} (F : Def X.prog X.w X.K X.mg X.base x k ps sp) (hr : Room k X.A) (hg : Gl X x) (ha : DA X (e :: es) t)
    (hdb : (x == ("__debug__" : Str)) = false := by decide) (he : starEach (e :: es) X.env = (false, eval e X.env) :: starEach es X.env := by rfl) (hpl : (backTo pos (starEach es X.env)).any (·.1) = false := by rfl) :
    DE X (.Call (.Name x p) (e :: es) [] pos) (dCall sp t) := by
  obtain ⟨f, fd, G, hm, hk, hb, _⟩ := F.ex
  exact de_call G hr hg hm hk hb ha hdb he hpl
/-- where a def of the text stands behind the top -/
structure At (K : PySem.W.Frag) (mg : Str → Option Value) (x qual : Str) (st : Stmt) : Prop where
  ex : ∃ (f : Addr) (fd : FuncData), Fun K x qual st f fd ∧ mg x = some (.ref f)
theorem def_mk {P : Program} {w : World} {K : PySem.W.Frag} {mg : Str → Option Value} {base : Heap} {x : Str} {st : Stmt} {N ps : List Str} {k : Nat} {sp : DSp} {t : DTS} (F : At K mg x x st) (S : FnScope N ps (defScope st))
    (hb : ∀ (kV doc pm : Value) (an : Option Addr) (cdv ct : Value) (us : List Value), us.length = ps.length → bindArgs (PySem.W.fnOf x x (defArgs st) (defBody st) (defScope st) .none kV doc pm an cdv ct) ⟨us, []⟩ = pure (ps.zip us))
    (len : ∀ ds m R E, sp ds m R E → ds.length = ps.length)
    (hder : ∀ (f : Addr) (cdv : Value) (A : Around) (outer : List Env) (s : Shared) (H : Hp) (E : XK), Room k (A.deeper (envOfC x (defScope st) s.heap.objs.size f cdv)) → DSs (cxOf CX0 P w K mg base N x (defScope st) f cdv A outer s H E).nox (defBody st) t)
    (hread : ∀ ds m R E, sp ds m R E → t (dends R) (dstart N.length ds) m) : Def P w K mg base x (k + 1) ps sp := by
  obtain ⟨f, fd, G, hm⟩ := F.ex
  exact ⟨f, fd, def_ok G S len (fun cdv A outer s H E hr => hder f cdv A outer s H E hr) hread, hm, G.kp, G.binds hb, DL.Fun.look G⟩
theorem fn_mk {P : Program} {w : World} {K : PySem.W.Frag} {mg : Str → Option Value} {base : Heap} {x : Str} {st : Stmt} {N ps : List Str} {k : Nat} {sp : DSp} {t : DTS} {f : Addr} {fd : FuncData} (G : Fun K x x st f fd) (S : FnScope N ps (defScope st))
    (len : ∀ ds m R E, sp ds m R E → ds.length = ps.length)
    (hder : ∀ (cdv : Value) (A : Around) (outer : List Env) (s : Shared) (H : Hp) (E : XK), Room k (A.deeper (envOfC x (defScope st) s.heap.objs.size f cdv)) → DSs (cxOf CX0 P w K mg base N x (defScope st) f cdv A outer s H E).nox (defBody st) t)
    (hread : ∀ ds m R E, sp ds m R E → t (dends R) (dstart N.length ds) m) : FnOk P w K mg base CX0 (k + 1) f fd ps (lSp K sp) :=
  def_ok G S len (fun cdv A outer s H E hr => hder cdv A outer s H E hr) hread
end DL

/-! more built-ins -/
namespace DL
open PySem PySem.Spec PyProof.Rows L2
section
variable {X : Cx} {e : Expr} {t : DTA} {p pos : Pos}
end
end DL

/-! insert -/
namespace DL
open PySem PySem.Spec PyProof.Rows L2
section
variable {X : Cx} {o e e2 : Expr} {to : DTE} {t : DTA} {p pos : Pos}
end
end DL

/-! texts: index, count, join -/
namespace DL
open PySem PySem.Spec PyProof.Rows L2
section
variable {X : Cx} {pos : Pos}
end
section
variable {X : Cx} {o e : Expr} {es : List Expr} {to : DTE} {t : DTA} {apos cpos : Pos}
end
end DL

/-! pop(i), sorted, list(range) -/
namespace DL
open PySem PySem.Spec PyProof.Rows L2
section
variable {X : Cx} {o e e2 : Expr} {to : DTE} {t : DTA} {p pos : Pos}
theorem Reps.rng {K : PySem.W.Frag} {H : Hp} (j : Int) : Reps K H (rngItems 0 j.toNat) (rgV 0 j) := by
  have key : ∀ (l : List Nat), Reps K H (l.map fun (k : Nat) => D.int (0 + (k : Int))) (l.map fun (k : Nat) => V.int (0 + (k : Int))) := by
    intro l
    induction l with
    | nil => exact Reps.nil
    | cons x l ih => exact Reps.cons (Rep.int_.mpr rfl) ih
  have e1 : rngItems 0 j.toNat = (List.range j.toNat).map fun (k : Nat) => D.int (0 + (k : Int)) := by
    unfold rngItems
    rfl
  have e2 : rgV 0 j = (List.range j.toNat).map fun (k : Nat) => V.int (0 + (k : Int)) := by
    unfold rgV
    rw [Int.sub_zero]
  rw [e1, e2]
  exact key _
end
end DL

/-! dicts whose keys are rows of ints -/
namespace DL
open PySem PySem.Spec PyProof.Rows L2
section
variable {X : Cx} {o e i value : Expr} {to te ti tv : DTE} {p pos pos' : Pos}
def valD (kvs : List (List Key × D)) (k : List Key) : Option D := (kvs.find? fun kv => decide (kv.1 = k)).map (·.2)
theorem RepK.any {K : PySem.W.Frag} {H : Hp} {k : List Key} : ∀ {kvs : List (List Key × D)} {vs : List (List Key × V)}, RepK K H kvs vs → (kvs.any fun kv => decide (kv.1 = k)) = (vs.any fun kv => decide (kv.1 = k))
  | [], vs, h => by unfold RepK at h; rw [h]; rfl
  | (c, d) :: kvs, vs, h => by
    unfold RepK at h
    obtain ⟨v, ws, rfl, h1, h2⟩ := h
    rw [List.any_cons, List.any_cons, RepK.any h2]
theorem RepK.val {K : PySem.W.Frag} {H : Hp} {k : List Key} {d : D} : ∀ {kvs : List (List Key × D)} {vs : List (List Key × V)}, RepK K H kvs vs → valD kvs k = some d → ∃ v, valV vs k = some v ∧ Rep K H d v
  | [], vs, h, e => by unfold valD at e; simp at e
  | (c, d') :: kvs, vs, h, e => by
    unfold RepK at h
    obtain ⟨v, ws, rfl, h1, h2⟩ := h
    unfold valD at e
    unfold valV
    by_cases q : c = k
    · subst q
      rw [List.find?_cons_of_pos (by simp)] at e ⊢
      simp at e
      subst e
      exact ⟨v, rfl, h1⟩
    · rw [List.find?_cons_of_neg (by simpa using q)] at e ⊢
      exact RepK.val h2 e
theorem RepK.length {K : PySem.W.Frag} {H : Hp} : ∀ {kvs : List (List Key × D)} {vs : List (List Key × V)}, RepK K H kvs vs → kvs.length = vs.length
  | [], vs, h => by unfold RepK at h; rw [h]; rfl
  | (c, d) :: kvs, vs, h => by
    unfold RepK at h
    obtain ⟨v, ws, rfl, h1, h2⟩ := h
    rw [List.length_cons, List.length_cons, RepK.length h2]
end
section
variable {X : Cx} {a b : Expr} {ta tb : DTE} {pos : Pos}
end
section
variable {X : Cx} {e : Expr} {t : DTA} {p pos : Pos}
end
end DL

/-! Exceptions over data: raise, calls that raise, try with a caught exception that stays in a name, isinstance of it, its row. -/
namespace DL
open PySem PySem.Spec PyProof.Rows L2

section
variable {X : Cx} {x n : Str} {c : Value} {i : Nat} {body suite : List Stmt} {st : Stmt} {np pos pos' : Pos} {tb : WX → TS} {ts : TS}
end

/-! ### statements that may raise, over data -/
abbrev DXS := Str → Option D → DSt → Mu → Prop
abbrev DTX := DXS → DTS
abbrev DTEx := DXK → DTE
def DoneXS (K : PySem.W.Frag) (H : Hp) (m : Mu) (EE : DXS) (W : WX) : Prop := ∀ c C o r m' d s H', clsAt K c C → EE c o r m' → Step K H m H' m' → RepM K H' m' → RepX K H' o d → RepS K H' r s → W (.ref C) d s H'
def lSx (K : PySem.W.Frag) (W : WX) (t : DTX) : TS := fun E' s H => ∃ r m E EE, RepS K H r s ∧ RepM K H m ∧ t EE E r m ∧ EndsOk K H m E E' ∧ DoneXS K H m EE W
def lEx (K : PySem.W.Frag) (W : WX) (t : DTEx) : TE := fun s H Q => ∃ r m R EE, RepS K H r s ∧ RepM K H m ∧ t EE r m R ∧ Done K H m R Q ∧ DoneX K H m EE (fun cls d H' => W cls d s H')
structure DSx (X : Cx) (W : WX) (e : Stmt) (t : DTX) : Prop where
  p : PS X e (lSx X.K W t)
structure DSsx (X : Cx) (W : WX) (e : List Stmt) (t : DTX) : Prop where
  p : PSs X e (lSx X.K W t)
structure DEx (X : Cx) (W : WX) (e : Expr) (t : DTEx) : Prop where
  p : PE X e (lEx X.K W t)
section
variable {X : Cx} {W : WX} {st : Stmt} {rest : List Stmt} {t u : DTX} {e : Expr} {te : DTEx} {pos : Pos}
end

/-! ### raise C('..') -/
/-- what the text says of an exception class that is made of a text -/
structure XMk (K : PySem.W.Frag) (mg : Str → Option Value) (c : Str) : Prop where
  ex : ∃ C, mg c = some (.ref C) ∧ clsAt K c C ∧ PySem.W.keepIn K (.ref C) = true ∧ PySem.W.excIn K C [.type "ValueError", .type "Exception", .type "BaseException", .type "object"] "ValueError.__new__" = true ∧
    PySem.W.subIn K (.ref C) (.type "BaseException") = some true ∧ PySem.W.typeIn K (.ref C) = some (.type "type")
/-! ### defs that may raise -/
structure DefX (P : Program) (w : World) (K : PySem.W.Frag) (mg : Str → Option Value) (base : Heap) (x : Str) (k : Nat) (ps : List Str) (sp : DSp) : Prop where
  ex : ∃ (f : Addr) (fd : FuncData), FnOk P w K mg base (L2.CX P w) k f fd ps (lSp K sp) ∧ mg x = some (.ref f) ∧ PySem.W.keepIn K (.ref f) = true ∧ Binds K fd ps []
/-! arguments that may raise -/
def lAx (K : PySem.W.Frag) (W : WX) (t : DXK → DTA) : TA := fun s H Q => ∃ r m R EE, RepS K H r s ∧ RepM K H m ∧ t EE r m R ∧ DoneA K H m R Q ∧ DoneX K H m EE (fun cls d H' => W cls d s H')
structure DAx (X : Cx) (W : WX) (es : List Expr) (t : DXK → DTA) : Prop where
  p : PA X es (lAx X.K W t)
/-! ### isinstance of a caught exception, its row -/
/-- the classes of the text: which stands under which -/
def subX (c d : Str) : Bool := c == d || d == "StretchError" || d == "ValueError"
structure XFacts (K : PySem.W.Frag) (C : Addr) : Prop where
  cl : PySem.W.isClsIn K C = true
  ga : PySem.W.findIn K (.ref C) "__getattribute__" = some (some (.builtin "BaseException.__getattribute__"))
  gg : PySem.W.findIn K (.ref C) "__getattr__" = some none
  sb : PySem.W.subIn K (.ref C) (.type "BaseException") = some true
  ca : PySem.W.findIn K (.ref C) "__class__" = some (some (.builtin "object.__class__"))
  cg : PySem.W.specialIn K (.builtin "object.__class__") "__get__" = some (some (.builtin "getset_descriptor.__get__"))
  ct : PySem.W.takesIn K (.builtin "object.__class__") = some true
  mo : PySem.W.mroIn K C (.type "object") = some true
  dc : PySem.W.hasDictIn K C = true
  ty : PySem.W.typeIn K (.ref C) = some (.type "type")
/-- all classes of the text that are asked about -/
structure ClsTab (K : PySem.W.Frag) (mg : Str → Option Value) (cs : List Str) : Prop where
  at_ : ∀ c ∈ cs, ∃ C, mg c = some (.ref C) ∧ clsAt K c C ∧ XFacts K C
  sub : ∀ c ∈ cs, ∀ d ∈ cs, ∀ C D, clsAt K c C → clsAt K d D → PySem.W.kitOne K (.ref C) (.ref D) = some (subX c d)
  und : ∀ c ∈ cs, ∀ d ∈ cs, ∀ C D, clsAt K c C → clsAt K d D → PySem.W.subIn K (.ref C) (.ref D) = some (subX c d)
  val : ∀ c ∈ cs, ∀ C, clsAt K c C → PySem.W.kitOne K (.ref C) (.type "ValueError") = some true
  non : ∀ d ∈ cs, ∀ D, clsAt K d D → PySem.W.kitOne K (.type "NoneType") (.ref D) = some false
section
variable {X : Cx} {cs : List Str} {a : Expr} {ta : DTE} {p pos : Pos}
/-- names of classes, as arguments -/
inductive ClsNames (X : Cx) (cs : List Str) : List Expr → List Str → Prop
  | nil : ClsNames X cs [] []
  | cons {d : Str} {p : Pos} {es : List Expr} {ds : List Str} (hd : d ∈ cs) (gd : Gl X d) (nd : (d == ("__debug__" : Str)) = false) (he : starEach (.Name d p :: es) X.env = (false, eval (.Name d p) X.env) :: starEach es X.env) (r : ClsNames X cs es ds) : ClsNames X cs (.Name d p :: es) (d :: ds)
end
end DL

/-! tuples whose object is known: tuple(list), t.index(x) -/
namespace DL
open PySem PySem.Spec PyProof.Rows L2
section
variable {X : Cx}
end
section
variable {X : Cx} {o e : Expr} {es : List Expr} {to : DTE} {t : DTA} {apos cpos : Pos} {k : Nat}
end
section
variable {X : Cx} {a b : Expr} {ta tb : DTE} {pos : Pos} {k : Nat}
end
end DL

/-! NoMap(row): the exception class with an __init__ of its own; str(n). -/
namespace DL
open PySem PySem.Spec PyProof.Rows L2

section
variable {X : Cx} {e : Expr} {es : List Expr} {t : DTA} {p pos : Pos}
end

/-! ### the text of __init__ -/
/-- what the text says of NoMap (at C), its base (at S) and its __init__ (at fI; its text st) -/
structure NMT (K : PySem.W.Frag) (mg : Str → Option Value) (st : Stmt) (C S fI : Addr) : Prop where
  gC : mg "NoMap" = some (.ref C)
  aC : clsAt K "NoMap" C
  gS : mg "StretchError" = some (.ref S)
  ox : OexC K C
  iC : PySem.W.findIn K (.ref C) "__init__" = some (some (.ref fI))
  tI : PySem.W.typeIn K (.ref fI) = some (.type "function")
  no : PySem.W.findIn K (.ref C) "row" = some none
  rd : PySem.W.readsIn K S (.type "type") = true
  ga : PySem.W.specialIn K (.ref S) "__getattribute__" = some (some (.builtin "type.__getattribute__"))
  vi : PySem.W.findCls K (.ref S) (.type "type") "__init__" = some (.val (.builtin "ValueError.__init__"))
  gstr : mg "str" = none
section
variable {X : Cx} {e : Expr} {es : List Expr} {ta : TA} {p1 p2 pos : Pos} {C S fI : Addr} {st : Stmt}
end
/-- its promise -/
def spNM (K : PySem.W.Frag) (C : Addr) : Sp := fun vs H Q _ => ∃ (a : Addr) (i : Int), vs = [.ref a, .int i] ∧ H a = some (exo a C none) ∧ OexC K C ∧ PySem.W.findIn K (.ref C) "row" = some none ∧ (0 ≤ i ∧ i < 200) ∧
  ∀ dx, H dx = none → dx ≠ a → Q .non (upd (upd H dx (exd dx [("row", .int i)])) a (exo a C (some dx)))
section
variable {P : Program} {w : World} {K : PySem.W.Frag} {mg : Str → Option Value} {base : Heap} {st : Stmt} {C S fI : Addr} {fd : FuncData}
end
/-! ### raise NoMap(n) -/
structure NMk (P : Program) (w : World) (K : PySem.W.Frag) (mg : Str → Option Value) (base : Heap) : Prop where
  ex : ∃ (st : Stmt) (C S fI : Addr) (fd : FuncData), NMT K mg st C S fI ∧ FnOk P w K mg base CX0 1 fI fd ["self", "row"] (spNM K C) ∧ Binds K fd ["self", "row"] []
end DL

/-! max of four numbers -/
namespace DL
open PySem PySem.Spec PyProof.Rows L2
theorem args_max4 (a b c d : Value) : argsOk "max" ⟨[a, b, c, d], []⟩ := by unfold argsOk; kernel_rfl
section
variable {prog : Program} {w : World} {A : Around} {E : Value → Shared → Prop} {s : Shared} {Q : Value → Shared → Prop} {a b c d : Value}
theorem call_max_four (h : wpAny (model prog w) A.in1 (pyIter (.ref s.heap.objs.size)) (fun it z => ∃ I fp wr n P St bt, it = .ref I ∧ Walks prog w A.in1 I fp wr n P St ∧ St 0 z.heap ∧ (∀ x ∈ fp, x < z.heap.objs.size) ∧ 0 < n ∧ CmpOf prog w A.in1 .Gt P bt ∧
      ∀ v h' tk, P (argBest bt (n - 1)) v → (∀ x o, x ∉ wr → z.heap.get? x = some o → h'.get? x = some o) → Q v { z with heap := h', toks := tk }) E { s with heap := s.heap.push { cls := .type "tuple", data := .seq #[a, b, c, d] } }) :
    wpAny (model prog w) A (call (.builtin "max") [a, b, c, d]) Q E s := by
  have loop : (toString "max" ++ toString ".loop" : String) = "max.loop" := by decide
  refine call_function_tree F.kind_max F.plain_max F.entry_max (args_max4 _ _ _ _) ?_
  show wpAny _ A.in1 (Builtin.Builtins.bindParams "max" ["key", "default"] 0 ⟨[], []⟩ >>= _) _ _ s
  have par : Builtin.Builtins.bindParams "max" ["key", "default"] 0 ⟨[], []⟩ = pure [none, none] := rfl
  refine wpAny_bind (wpAny_of_eq par ?_)
  show wpAny _ A.in1 (newTuple [a, b, c, d] >>= _) _ _ s
  refine wpAny_bind (wpAny_newObj_type (wpAny_bind (wpAny_mono h (fun it z hz => ?_) fun _ _ e => e)))
  rcases hz with ⟨I, fp, wr, n, P, St, bt, rfl, W, st0, low, pos, cmp, fin⟩
  refine wpAny_bind (wpAny_newObj_type ?_)
  have apart : z.heap.objs.size ∉ fp := fun m => Nat.lt_irrefl _ (low _ m)
  rw [loop]
  refine wpAny_pure ⟨plainId_quiet F.plain_max_loop _, codeAny_max_loop_first W bt cmp z.heap.objs.size apart pos (W.frame _ _ _ st0 fun _ _ o e => Heap.get?_push_of_some _ e) (Heap.get?_push_size _ rfl) fun v h' tk p k => ?_⟩
  exact fin v h' tk p fun x o nw e => k x o nw (Nat.ne_of_lt (Heap.lt_size e)) (Heap.get?_push_of_some _ e)
def mx (i j : Int) : Int := if j > i then j else i
theorem max_four_ints {i j k l : Int} {t u v x : Tok} (hh : A.handled = none)
    (h : ∀ h' tk y, (∀ d o, s.heap.get? d = some o → h'.get? d = some o) → Q (.int (mx (mx (mx i j) k) l) y) { s with heap := h', toks := tk }) :
    wpAny (model prog w) A (call (.builtin "max") [.int i t, .int j u, .int k v, .int l x]) Q E s := by
  have tup : (s.heap.push { cls := .type "tuple", data := .seq #[.int i t, .int j u, .int k v, .int l x] }).IsTuple s.heap.objs.size #[.int i t, .int j u, .int k v, .int l x] := ⟨_, Heap.get?_push_size _ rfl, rfl, 0, rfl⟩
  refine call_max_four (wpAny_pyIter_tuple tup ?_)
  have size : (s.heap.push { cls := .type "tuple", data := .seq #[.int i t, .int j u, .int k v, .int l x] }).objs.size = s.heap.objs.size + 1 := Heap.size_push ..
  refine ⟨_, [_, s.heap.objs.size], [_], _, _, _, _, rfl, Walks.tuple (A := A.in1) hh _ s.heap.objs.size (by rw [size]; exact Nat.ne_of_lt (Nat.lt_succ_self _)) #[.int i t, .int j u, .int k v, .int l x], ⟨⟨_, Heap.get?_push_size _ rfl, rfl, rfl⟩, tup.push _⟩, fun y hy => ?low, by simp,
    Flt.cmpOf_gt #[.int i t, .int j u, .int k v, .int l x] (fun z hz => by
      simp only [List.mem_toArray, List.mem_cons, List.not_mem_nil, or_false] at hz
      rcases hz with rfl | rfl | rfl | rfl <;> exact .int _ _), fun z h' tk hz hk => ?fin⟩
  case low =>
    have sz : ∀ (h : Heap) o, h.objs.size < (h.push o).objs.size := fun h o => by rw [Heap.size_push]; exact Nat.lt_succ_self _
    rcases List.mem_cons.mp hy with rfl | hy
    · exact sz _ _
    · rcases List.mem_cons.mp hy with rfl | hy
      · exact Nat.lt_trans (sz _ _) (sz _ _)
      · cases hy
  case fin =>
    have old : ∀ d o, s.heap.get? d = some o → h'.get? d = some o := fun d o e => by
      refine hk d o (fun m => ?_) (Heap.get?_push_of_some _ (Heap.get?_push_of_some _ e))
      have lt := Heap.lt_size e
      rcases List.mem_cons.mp m with e1 | m
      · rw [e1, size] at lt; exact Nat.lt_irrefl _ (Nat.lt_trans (Nat.lt_succ_self _) lt)
      · cases m
    have val : ∃ y, z = .int (mx (mx (mx i j) k) l) y := by
      unfold mx
      by_cases c1 : j > i <;> by_cases c2 : k > i <;> by_cases c3 : k > j <;> by_cases c4 : l > i <;> by_cases c5 : l > j <;> by_cases c6 : l > k <;>
        simp [argBest, Flt.ltV, c1, c2, c3, c4, c5, c6] at hz ⊢ <;> first | exact ⟨_, hz.symm⟩ | omega
    obtain ⟨y, rfl⟩ := val
    exact h h' tk y old
end
section
variable {X : Cx}
theorem call_max4 (hc : X.calm = true) : CallR X (.builtin "max") (fun xs H Q => ∃ i j k l, xs = [.int i, .int j, .int k, .int l] ∧ Q (.int (mx (mx (mx i j) k) l)) H) := by
  intro pins s σ H xs us Q I r h
  rcases h with ⟨i, j, k, l, rfl, q⟩
  cases r with
  | cons r1 r =>
    cases r with
    | cons r2 r =>
      cases r with
      | cons r3 r =>
        cases r with
        | cons r4 r =>
          cases r
          rcases r1 with ⟨t1, rfl⟩
          rcases r2 with ⟨t2, rfl⟩
          rcases r3 with ⟨t3, rfl⟩
          rcases r4 with ⟨t4, rfl⟩
          exact max_four_ints (I.ok.hd hc) fun h' tk y kp => ⟨.int (mx (mx (mx i j) k) l), H, I.kept kp, ⟨_, rfl⟩, q⟩
def gMax4 : List D → Mu → DK → Prop := fun ds m R => match ds with
  | [.int i, .int j, .int k, .int l] => R (.int (mx (mx (mx i j) k) l)) m
  | _ => False
theorem de_max4 {e : Expr} {es : List Expr} {t : DTA} {p pos : Pos} (hc : X.calm = true) (gl : Gl X "max") (hm : X.mg "max" = none) (ha : DA X (e :: es) t) (he : starEach (e :: es) X.env = (false, eval e X.env) :: starEach es X.env := by rfl) (hpl : (backTo pos (starEach es X.env)).any (·.1) = false := by rfl) : DE X (.Call (.Name "max" p) (e :: es) [] pos) (dB gMax4 t) :=
  de_b (call_max4 hc) (fun H m ds vs R Q M r h q => by
    unfold gMax4 at h
    split at h
    · rename_i i j k l
      have e : vs = [i, j, k, l].map V.int := Reps.ints (ns := [i, j, k, l]) r
      exact ⟨i, j, k, l, e, q.here h M (Rep.int_.mpr rfl)⟩
    · exact h.elim) gl hm (by decide +kernel) ha (by decide) (by decide) he hpl
end
/-! ### t[::c] of a tuple -/
def pickL {α : Type} (ix : List Nat) (xs : List α) : List α := ix.filterMap fun i => xs[i]?
theorem pickL_cons {α : Type} (i : Nat) (ix : List Nat) (xs : List α) : pickL (i :: ix) xs = (xs.drop i).take 1 ++ pickL ix xs := by
  unfold pickL
  rw [List.take_one, List.head?_drop, List.filterMap_cons]
  cases xs[i]? <;> rfl
theorem Reps.pick {K : PySem.W.Frag} {H : Hp} {ds : List D} {vs : List V} (h : Reps K H ds vs) : ∀ ix : List Nat, Reps K H (pickL ix ds) (pickL ix vs)
  | [] => Reps.nil
  | i :: ix => by
    rw [pickL_cons, pickL_cons]
    exact ((h.drop i).take 1).append (h.pick ix)
theorem vals_pick {vs : List V} {us : List Value} (h : Vals vs us) : ∀ ix : List Nat, Vals (pickL ix vs) (pickL ix us)
  | [] => .nil
  | i :: ix => by
    rw [pickL_cons, pickL_cons]
    exact ((h.drop i).take 1).append (vals_pick h ix)
/-- the places of [::c] among n -/
def stepIx (c : Int) (n : Nat) : List Nat := (List.range (Builtin.Slice.slicePlaces (Builtin.Slice.sliceAdjust none none c n).1 (Builtin.Slice.sliceAdjust none none c n).2 c)).map fun (k : Nat) => ((Builtin.Slice.sliceAdjust none none c n).1 + (k : Int) * c).toNat
def stepD (c : Int) (ds : List D) : List D := pickL (stepIx c ds.length) ds
theorem stepD_rev (ds : List D) : stepD (-1) ds = ds.reverse := by
  have e1 : Builtin.Slice.sliceAdjust none none (-1) (ds.length : Int) = ((ds.length : Int) - 1, -1) := rfl
  have e2 : Builtin.Slice.slicePlaces ((ds.length : Int) - 1) (-1) (-1) = ds.length := by
    unfold Builtin.Slice.slicePlaces
    rw [if_neg (by decide), show (- -1 : Int) = 1 by decide, Int.ediv_one]
    split <;> omega
  have e3 : (List.range ds.length).map (fun (k : Nat) => ((ds.length : Int) - 1 + (k : Int) * (-1)).toNat) = (List.range ds.length).reverse := by
    rw [← PySem.W.krv_range]
    refine List.map_congr_left fun k hk => ?_
    have := List.mem_range.mp hk
    omega
  unfold stepD stepIx
  rw [e1]
  show pickL ((List.range (Builtin.Slice.slicePlaces ((ds.length : Int) - 1) (-1) (-1))).map fun (k : Nat) => ((ds.length : Int) - 1 + (k : Int) * (-1)).toNat) ds = _
  rw [e2, e3]
  unfold pickL
  rw [List.filterMap_reverse]
  have h := PySem.W.krv_all ds.toArray
  simp only [List.size_toArray, List.getElem?_toArray] at h
  rw [h]
section
variable {prog : Program} {w : World} {A : Around} {E : Value → Shared → Prop} {s : Shared}
theorem applied_step {sl : Addr} {c : Int} {n : Nat} {vs : Value} {Q : Int × Int × Nat → Shared → Prop} (hs : s.heap.IsSliceOf sl .none .none vs) (ps : IsPart vs (some c)) (h0 : c ≠ 0)
    (h : Q ((Builtin.Slice.sliceAdjust none none c n).1, c, Builtin.Slice.slicePlaces (Builtin.Slice.sliceAdjust none none c n).1 (Builtin.Slice.sliceAdjust none none c n).2 c) s) :
    wpAny (model prog w) A (Builtin.Slice.sliceApplied (.ref sl) (pure (n : Int))) Q E s := by
  obtain ⟨o3, h1, h2, h3⟩ := id hs
  unfold Builtin.Slice.sliceApplied Builtin.Slice.sliceFields
  refine wpAny_bind (wpAny_bind (wpAny_field h1 h3 (x := .none) rfl (wpAny_bind (wpAny_field h1 h3 (x := .none) rfl (wpAny_bind (wpAny_field h1 h3 (x := vs) rfl (wpAny_pure ?_)))))))
  refine wpAny_bind (HT.slicePart_ ps ?_)
  show wpAny _ _ (if (c == 0) = true then _ else _) _ _ s
  rw [if_neg (by simpa using h0)]
  refine wpAny_bind (HT.slicePart_ .none (wpAny_bind (HT.slicePart_ .none (wpAny_bind (wpAny_pure ?_)))))
  exact wpAny_pure h
theorem tuple_step {t sl : Addr} {us : List Value} {c : Int} {vs : Value} {Q : Value → Shared → Prop} (ht : IsTup s.heap t us.toArray) (hs : s.heap.IsSliceOf sl .none .none vs) (ps : IsPart vs (some c)) (h0 : c ≠ 0) (h1 : c ≠ 1)
    (h : Q (.ref s.heap.objs.size) { s with heap := s.heap.push { cls := .type "tuple", data := .seq (pickL (stepIx c us.length) us).toArray } })
    (hz : (pickL (stepIx c us.length) us).length ≤ sizeLine) : wpAny (model prog w) A (getItem (.ref t) (.ref sl)) Q E s := by
  have fits : sizeOk (.seq (pickL (stepIx c us.length) us).toArray) := by
    show (pickL (stepIx c us.length) us).toArray.size ≤ sizeLine
    rw [List.size_toArray]
    exact hz
  obtain ⟨o3, e1, e2, e3⟩ := id hs
  have tS : s.TypeIs (.ref sl) "slice" := ⟨o3, e1, e2⟩
  unfold getItem
  try with_reducible refine wpAny_holding ?_
  first | refine wpAny_bind (wpAny_pure ?_) | skip
  refine wpAny_bind (wpAny_sequenceKey ht.typeIs (by decide) ?_)
  refine wpAny_bind (wpAny_callSpecial?_slot (name := Str.ofString "__getitem__") ht.typeIs PyProof.Rows.slot_tuple_getitem (wpAny_call_entry PyProof.Rows.slot_tuple_getitem ht.typeIs entry_tuple_getitem ?_ (args_tuple_getitem _ _)))
  show wpAny _ _ (Builtin.Tuple.tupleItemsOf (.ref t) >>= _) _ _ s
  refine wpAny_bind (tupleItemsOf_ ht (wpAny_bind (wpAny_typeOf tS ?_)))
  rw [if_pos (by decide)]
  rw [List.size_toArray]
  refine wpAny_bind (applied_step hs ps h0 ?_)
  have no : ¬ (((Builtin.Slice.sliceAdjust none none c us.length).1 == 0 && c == 1 && Builtin.Slice.slicePlaces (Builtin.Slice.sliceAdjust none none c us.length).1 (Builtin.Slice.sliceAdjust none none c us.length).2 c == us.length) = true) := by
    intro q
    rw [Bool.and_eq_true, Bool.and_eq_true] at q
    exact h1 (eq_of_beq q.1.2)
  show wpAny _ _ (if ((Builtin.Slice.sliceAdjust none none c us.length).1 == 0 && c == 1 && Builtin.Slice.slicePlaces (Builtin.Slice.sliceAdjust none none c us.length).1 (Builtin.Slice.sliceAdjust none none c us.length).2 c == us.length) = true then _ else _) _ _ s
  rw [if_neg no]
  have pk : ((List.range (Builtin.Slice.slicePlaces (Builtin.Slice.sliceAdjust none none c us.length).1 (Builtin.Slice.sliceAdjust none none c us.length).2 c)).filterMap fun (k : Nat) => us.toArray[((Builtin.Slice.sliceAdjust none none c us.length).1 + (k : Int) * c).toNat]?) = pickL (stepIx c us.length) us := by
    unfold pickL stepIx
    rw [List.filterMap_map]
    simp only [List.getElem?_toArray]
    rfl
  rw [pk]
  first
    | exact wpAny_bind (m := Builtin.Tuple.tupleExact _) (wpAny_newObj_type (wpAny_pure ⟨_, rfl, wpAny_pure h⟩) fits)
    | exact wpAny_bind (m := Builtin.Tuple.tupleExact _) (wpAny_newObj_type (wpAny_bind (wpAny_pure (wpAny_pure ⟨_, rfl, wpAny_pure h⟩))) fits)
    | exact wpAny_bind (wpAny_bind (m := Builtin.Tuple.tupleExact _) (wpAny_newObj_type (wpAny_pure (wpAny_pure ⟨_, rfl, wpAny_pure h⟩)) fits))
    | exact wpAny_bind (wpAny_bind (m := Builtin.Tuple.tupleExact _) (wpAny_newObj_type (wpAny_pure ⟨_, rfl, wpAny_pure h⟩) fits))
end
section
variable {X : Cx}
def tStepT (K : PySem.W.Frag) (te : TE) (tt : TO) : TE := fun σ H Q => te σ H fun x H1 => tt σ H1 fun o H2 => ∃ a xs c, x = .ref a ∧ o = some c ∧ SqT K H2 a xs ∧ c ≠ 0 ∧ c ≠ 1 ∧ (pickL (stepIx c xs.length) xs).length ≤ sizeLine ∧ ∀ p, H2 p = none → Q (.ref p) (upd H2 p (.tup (pickL (stepIx c xs.length) xs)))
theorem pe_stepT {e st : Expr} {te : TE} {tt : TO} {p3 pos : Pos} (he : PE X e te) (hst : PO X (some st) tt) : PE X (.Subscript e (.Slice none none (some st) p3) pos) (tStepT X.K te tt) := by
  refine ⟨fun pins s σ H Q I h => ?_⟩
  refine Subscript_ (thn (he.run pins s σ H _ I h) fun v s1 ⟨x, H1, I1, r1, q1⟩ => ?_)
  refine wpAny_Slice (thn (po_none.run pins s1 σ H1 (fun o H2 => o = none ∧ H2 = H1) I1 ⟨rfl, rfl⟩) fun vl s2 ⟨l, H2, I2, pl, el, e2⟩ => ?_)
  subst el e2
  refine thn (po_none.run pins s2 σ H2 (fun o H3 => o = none ∧ H3 = H2) I2 ⟨rfl, rfl⟩) fun vu s3 ⟨u, H3, I3, pu, eu, e3⟩ => ?_
  subst eu e3
  refine thn (hst.run pins s3 σ H3 _ I3 q1) fun vs s4 ⟨o, H4, I4, ps, hq⟩ => ?_
  obtain ⟨a, xs, c, ex, eo, hx, h0, h1, hz, q⟩ := hq
  subst ex eo
  cases r1
  cases pl
  cases pu
  have J : Inv X pins σ H4 { s4 with heap := s4.heap.push { cls := .type "slice", data := .fields #[.none, .none, vs] } } := I4.kept (t' := s4.toks) fun b ob q => Heap.get?_push_of_some _ q
  obtain ⟨us, r, ht, hn⟩ := J.tuple hx
  have hlen : us.length = xs.length := r.length.symm
  have rp := vals_pick r (stepIx c xs.length)
  show wpAny (model X.prog X.w) X.A (subscriptTail e (.Slice none none (some st) p3) (.ref a) (.ref s4.heap.objs.size)) (EP X pins σ Q) X.xe { s4 with heap := s4.heap.push { cls := .type "slice", data := .fields #[.none, .none, vs] } }
  refine tail_any (ops := [.ref a, .ref s4.heap.objs.size]) ht.typeIs PyProof.Rows.slot_tuple_getitem.lookup ?_ (by with_unfolding_all rfl)
  refine tuple_step ht (Heap.IsSliceOf.new _ .none .none vs) ps h0 h1 ?_ (by rw [hlen, ← rp.length]; exact hz)
  rw [hlen]
  refine ⟨.ref _, _, J.laid (t' := s4.toks) (o := .tup (pickL (stepIx c xs.length) xs)) (fun b ob q => Heap.get?_push_of_some _ q) (Nat.le_refl _) ?_, rfl, q _ (J.hok.fresh (Nat.le_refl _))⟩
  exact ⟨hz, _, rp, IsTup.new _ _⟩
def gStep (c : Option Int) : D → Mu → DK → Prop := fun x m R => match x, c with
  | .tup ds, some c => c ≠ 0 ∧ c ≠ 1 ∧ (stepD c ds).length ≤ sizeLine ∧ R (.tup (stepD c ds)) m
  | _, _ => False
def dStep (te : DTE) (tt : DTO) : DTE := fun r m R => te r m fun x m1 => tt r m1 fun c m2 => gStep c x m2 R
theorem de_step {e st : Expr} {te : DTE} {tt : DTO} {p3 pos : Pos} (he : DE X e te) (hst : DO' X (some st) tt) : DE X (.Subscript e (.Slice none none (some st) p3) pos) (dStep te tt) :=
  ⟨(pe_stepT he.p hst.p).of fun s H Q ⟨r, m, R, hs, M, h, q⟩ => ⟨r, m, _, hs, M, h, fun x m1 v H1 h1 s1 M1 q1 => ⟨r, m1, _, hs.keep s1.keep, M1, h1, fun c m2 H2 h2 s2 M2 => by
    have st := s1.trans s2
    have r3 := q1.keep s2.keep
    unfold gStep at h2
    split at h2
    · rename_i ds c
      obtain ⟨a, xs, rfl, hn, rx⟩ := Rep.tup0.mp r3
      have hx : SqT X.K H2 a xs := hn.sq
      have rp := rx.pick (stepIx c ds.length)
      unfold stepD at h2
      rw [rx.length] at h2 rp
      exact ⟨a, xs, c, rfl, rfl, hx, h2.1, h2.2.1, by rw [← rp.length]; exact h2.2.2.1, fun p hp => q _ _ _ _ h2.2.2.2 (st.trans (Step.new hp)) (M2.new hp) (Rep.tup_.mpr ⟨p, _, rfl, upd_same, rp.keep (Keep.new hp)⟩)⟩
    · exact h2.elim⟩⟩⟩
end
end DL

/-! list(zip(a, b)) of two lists or of two tuples -/
namespace DL
open PySem PySem.Spec PyProof.Rows L2
theorem nm2 {x a b : Addr} (h1 : x ≠ a) (h2 : x ≠ b) : x ∉ [a, b] := by
  simp only [List.mem_cons, List.not_mem_nil, or_false, not_or]
  exact ⟨h1, h2⟩
theorem zp_len : typeLookup (.type "zip") "__len__" = pure none := am_miss_of_fast (by decide +kernel)
theorem zp_hint : typeLookup (.type "zip") "__length_hint__" = pure none := am_miss_of_fast (by decide +kernel)
section
variable {prog : Program} {w : World} {A : Around} {E : Value → Shared → Prop} {s : Shared} {za ti to j1 j2 : Addr} {fp1 fp2 : List Addr} {n1 n2 i : Nat} {P1 P2 : Nat → Value → Prop} {St1 St2 : Nat → Heap → Prop}
/-- the next pair while the one before is still out -/
theorem zh_item {Q : Value → Shared → Prop} {T : Addr} {f : Bool} {oT : Obj} (S : ZipSep2 za ti to j1 j2 fp1 fp2) (D1 : Draws prog w A j1 fp1 n1 P1 St1) (D2 : Draws prog w A j2 fp2 n2 P2 St2)
    (hz : IsZipHeld s.heap za ti to T f) (hT : s.heap.get? T = some oT) (hI : IsTupOf2 s.heap ti (.ref j1) (.ref j2)) (st1 : St1 i s.heap) (st2 : St2 i s.heap) (l1 : i < n1) (l2 : i < n2)
    (hQ : ∀ x1 x2 h' tk, P1 i x1 → P2 i x2 → IsZipHeld h' za ti to T true → St1 (i + 1) h' → St2 (i + 1) h' → IsTupOf2 h' s.heap.objs.size x1 x2 → h'.objs.size = s.heap.objs.size + 1 →
      (∀ c o, c ≠ za → c ≠ j1 → c ≠ j2 → s.heap.get? c = some o → h'.get? c = some o) → Q (.ref s.heap.objs.size) { s with heap := h', toks := tk }) :
    wpAny (model prog w) A (Builtin.«zip.__next__» ⟨[.ref za], []⟩) (fun fin s' => ∃ v, fin = .done (.ret v) ∧ Q v s') E s := by
  obtain ⟨hp, gg, dd, tk0, os⟩ := s
  show wpAny _ _ (field (.ref za) 2 >>= _) _ _ _
  refine wpAny_bind (wpAny_field hz rfl (x := .bool false) rfl ?_)
  show wpAny _ _ (field (.ref za) 3 >>= _) _ _ _
  refine wpAny_bind (wpAny_field hz rfl (x := .ref ti) rfl ?_)
  refine wpAny_bind (wpAny_seqItems hI rfl ?_)
  show wpAny _ _ (Builtin.SmallTypes.ownedTupleIsFree (.ref za) >>= _) _ _ _
  refine wpAny_bind (wpAny_tupleHeld_zip hz hT fun g0 hz0 hs0 => ?_)
  replace hs0 : Heap.SameBut za hp g0 := hs0
  simp only [Bool.false_eq_true, if_false]
  refine wpAny_bind ?_
  rw [← Array.forIn_toList]
  simp only [List.forIn_cons, List.forIn_nil]
  refine wpAny_bind (wpAny_bind (wpAny_holding ?_))
  show wpAny _ _ (Builtin.SmallTypes.nextOf (.ref j1) >>= _) _ _ ⟨g0, gg, dd, tk0, os⟩
  refine wpAny_bind (D1.item i ⟨g0, gg, dd, tk0, os⟩ _ _ l1 (D1.over st1 hs0 S.zf1) fun x1 p1 tk1 hx1 sn1 hp1 => wpAny_pure (wpAny_pure ?_))
  replace hp1 : Heap.SameBut j1 g0 p1 := hp1
  refine wpAny_bind (wpAny_bind (wpAny_holding ?_))
  show wpAny _ _ (Builtin.SmallTypes.nextOf (.ref j2) >>= _) _ _ ⟨p1, gg, dd, tk1, os⟩
  refine wpAny_bind (D2.item i ⟨p1, gg, dd, tk1, os⟩ _ _ l2 (D2.over (D2.over st2 hs0 S.zf2) hp1 S.sep1_2) fun x2 p2 tk2 hx2 sn2 hp2 => wpAny_pure (wpAny_pure (wpAny_pure ?_)))
  replace hp2 : Heap.SameBut j2 p1 p2 := hp2
  show wpAny _ _ (newTuple [x1, x2] >>= _) _ _ ⟨p2, gg, dd, tk2, os⟩
  refine wpAny_bind (wpAny_newTuple ?_)
  have hsz : p2.objs.size = hp.objs.size := by rw [hp2.1, hp1.1, hs0.1]
  have hzz : IsZipHeld p2 za ti to T true := hp2.extBut _ _ S.zi2 (hp1.extBut _ _ S.zi1 hz0)
  have hk : ∀ c o, c ≠ za → c ≠ j1 → c ≠ j2 → hp.get? c = some o → p2.get? c = some o := fun c o c1 c2 c3 e => hp2.extBut _ _ c3 (hp1.extBut _ _ c2 (hs0.extBut _ _ c1 e))
  have q1 : St1 (i + 1) p2 := D1.over sn1 hp2 S.sep2_1
  refine wpAny_pure ⟨_, rfl, ?_⟩
  show Q (.ref p2.objs.size) ⟨p2.push { cls := .type "tuple", data := .seq #[x1, x2] }, gg, dd, tk2, os⟩
  have hn : IsTupOf2 (p2.push { cls := .type "tuple", data := .seq #[x1, x2] }) p2.objs.size x1 x2 := Heap.get?_push_size _ rfl
  have hn2 : (p2.push { cls := .type "tuple", data := .seq #[x1, x2] }).objs.size = p2.objs.size + 1 := Heap.size_push ..
  rw [hsz] at hn hn2 ⊢
  exact hQ x1 x2 _ tk2 hx1 hx2 (Heap.get?_push_of_some _ hzz) (D1.frame _ _ _ q1 fun b _ o e => Heap.get?_push_of_some _ e) (D2.frame _ _ _ sn2 fun b _ o e => Heap.get?_push_of_some _ e) hn hn2 fun c o c1 c2 c3 e => Heap.get?_push_of_some _ (hk c o c1 c2 c3 e)
theorem zh_end {Q : Fin → Shared → Prop} {T : Addr} {f : Bool} {oT : Obj} (S : ZipSep2 za ti to j1 j2 fp1 fp2) (D1 : Draws prog w A j1 fp1 n1 P1 St1) (D2 : Draws prog w A j2 fp2 n2 P2 St2)
    (hz : IsZipHeld s.heap za ti to T f) (hT : s.heap.get? T = some oT) (hI : IsTupOf2 s.heap ti (.ref j1) (.ref j2)) (st1 : St1 i s.heap) (st2 : St2 i s.heap) (l1 : i ≤ n1) (l2 : i ≤ n2) (hend : i = n1 ∨ i = n2)
    (hE : ∀ h' tk e, (∀ c o, c ≠ za → c ≠ j1 → c ≠ j2 → s.heap.get? c = some o → h'.get? c = some o) → (∃ o, h'.get? e = some o ∧ o.cls = .type "StopIteration") → E (.ref e) { s with heap := h', toks := tk }) :
    wpAny (model prog w) A (Builtin.«zip.__next__» ⟨[.ref za], []⟩) Q E s := by
  obtain ⟨hp, gg, dd, tk0, os⟩ := s
  show wpAny _ _ (field (.ref za) 2 >>= _) _ _ _
  refine wpAny_bind (wpAny_field hz rfl (x := .bool false) rfl ?_)
  show wpAny _ _ (field (.ref za) 3 >>= _) _ _ _
  refine wpAny_bind (wpAny_field hz rfl (x := .ref ti) rfl ?_)
  refine wpAny_bind (wpAny_seqItems hI rfl ?_)
  show wpAny _ _ (Builtin.SmallTypes.ownedTupleIsFree (.ref za) >>= _) _ _ _
  refine wpAny_bind (wpAny_tupleHeld_zip hz hT fun g0 hz0 hs0 => ?_)
  replace hs0 : Heap.SameBut za hp g0 := hs0
  simp only [Bool.false_eq_true, if_false]
  refine wpAny_bind ?_
  rw [← Array.forIn_toList]
  simp only [List.forIn_cons, List.forIn_nil]
  refine wpAny_bind (wpAny_bind (wpAny_holding ?_))
  show wpAny _ _ (Builtin.SmallTypes.nextOf (.ref j1) >>= _) _ _ ⟨g0, gg, dd, tk0, os⟩
  by_cases hlt : i < n1
  · refine wpAny_bind (D1.item i ⟨g0, gg, dd, tk0, os⟩ _ _ hlt (D1.over st1 hs0 S.zf1) fun x1 p1 tk1 hx1 sn1 hp1 => wpAny_pure (wpAny_pure ?_))
    replace hp1 : Heap.SameBut j1 g0 p1 := hp1
    have e2 : i = n2 := by omega
    refine wpAny_bind (wpAny_bind (wpAny_holding ?_))
    show wpAny _ _ (Builtin.SmallTypes.nextOf (.ref j2) >>= _) _ _ ⟨p1, gg, dd, tk1, os⟩
    refine wpAny_bind (D2.done ⟨p1, gg, dd, tk1, os⟩ _ _ (by rw [← e2]; exact D2.over (D2.over st2 hs0 S.zf2) hp1 S.sep1_2) fun q e hq he => ?_)
    exact hE q tk1 e (fun c o c1 c2 c3 x => hq _ _ c3 (hp1.extBut _ _ c2 (hs0.extBut _ _ c1 x))) he
  · have e1 : i = n1 := by omega
    refine wpAny_bind (D1.done ⟨g0, gg, dd, tk0, os⟩ _ _ (by rw [← e1]; exact D1.over st1 hs0 S.zf1) fun q e hq he => ?_)
    exact hE q tk0 e (fun c o c1 c2 c3 x => hq _ _ c2 (hs0.extBut _ _ c1 x)) he
/-- where a zip stands -/
structure ZAt (h : Heap) (za ti to j1 j2 : Addr) (St1 St2 : Nat → Heap → Prop) (i : Nat) : Prop where
  tI : IsTupOf2 h ti (.ref j1) (.ref j2)
  s1 : St1 i h
  s2 : St2 i h
  zz : (IsZip h za ti to .none ∧ ∃ a b, IsTupOf2 h to a b) ∨ ∃ T f oT, IsZipHeld h za ti to T f ∧ h.get? T = some oT
theorem ZAt.ty (z : ZAt s.heap za ti to j1 j2 St1 St2 i) : s.TypeIs (.ref za) "zip" := by
  rcases z.zz with ⟨h, _⟩ | ⟨T, f, oT, h, _⟩ <;> exact ⟨_, h, rfl⟩
theorem zn_item {Q : Option Value → Shared → Prop} (S : ZipSep2 za ti to j1 j2 fp1 fp2) (D1 : Draws prog w A.in1 j1 fp1 n1 P1 St1) (D2 : Draws prog w A.in1 j2 fp2 n2 P2 St2)
    (z : ZAt s.heap za ti to j1 j2 St1 St2 i) (l1 : i < n1) (l2 : i < n2)
    (hQ : ∀ x1 x2 h' tk, P1 i x1 → P2 i x2 → ZAt h' za ti to j1 j2 St1 St2 (i + 1) → IsTupOf2 h' s.heap.objs.size x1 x2 →
      (∀ c o, c ≠ za → c ≠ to → c ≠ j1 → c ≠ j2 → s.heap.get? c = some o → h'.get? c = some o) → Q (some (.ref s.heap.objs.size)) { s with heap := h', toks := tk }) :
    wpAny (model prog w) A (pyNext (.ref za)) Q E s := by
  have ty := z.ty
  obtain ⟨tI, s1, s2, zz⟩ := z
  rcases zz with ⟨hz, a, b, hto⟩ | ⟨T, f, oT, hz, hT⟩
  · refine wpAny_pyNext_zipD2_item S D1 D2 hz tI hto s1 s2 l1 l2 fun x1 x2 h' tk y1 y2 b1 b2 d1 d2 b5 b6 b7 => ?_
    exact hQ x1 x2 h' tk y1 y2 ⟨b7 _ _ S.TIz S.TITO S.TIi1 S.TIi2 tI, d1, d2, .inr ⟨_, false, _, b1, b5⟩⟩ b5 b7
  · unfold pyNext
    refine wpAny_bind (wpAny_attempt (wpAny_callSpecial?_slot (name := Str.ofString "__next__") ty F.slot_zip_next (wpAny_call_entry F.slot_zip_next ty F.entry_zip_next ?_ (F.args_zip_next_1 _))))
    refine zh_item S D1 D2 hz hT tI s1 s2 l1 l2 fun x1 x2 h' tk y1 y2 b1 d1 d2 b5 b6 b7 => wpAny_pure ?_
    have hTz : T ≠ za ∨ T = za := (Decidable.em (T = za)).symm
    refine hQ x1 x2 h' tk y1 y2 ⟨b7 _ _ S.TIz S.TIi1 S.TIi2 tI, d1, d2, ?_⟩ b5 fun c o c1 _ c3 c4 e => b7 c o c1 c3 c4 e
    by_cases q : T = za
    · exact .inr ⟨T, true, _, b1, by rw [q]; exact b1⟩
    · by_cases q1 : T = j1
      · obtain ⟨o1, e1⟩ := D1.live _ _ d1
        exact .inr ⟨T, true, o1, b1, by rw [q1]; exact e1⟩
      · by_cases q2 : T = j2
        · obtain ⟨o1, e1⟩ := D2.live _ _ d2
          exact .inr ⟨T, true, o1, b1, by rw [q2]; exact e1⟩
        · exact .inr ⟨T, true, oT, b1, b7 _ _ q q1 q2 hT⟩
theorem zn_end {Q : Option Value → Shared → Prop} (S : ZipSep2 za ti to j1 j2 fp1 fp2) (D1 : Draws prog w A.in1 j1 fp1 n1 P1 St1) (D2 : Draws prog w A.in1 j2 fp2 n2 P2 St2)
    (z : ZAt s.heap za ti to j1 j2 St1 St2 i) (l1 : i ≤ n1) (l2 : i ≤ n2) (hend : i = n1 ∨ i = n2)
    (hQ : ∀ h' tk, (∀ c o, c ≠ za → c ≠ to → c ≠ j1 → c ≠ j2 → s.heap.get? c = some o → h'.get? c = some o) → Q none { s with heap := h', toks := tk }) : wpAny (model prog w) A (pyNext (.ref za)) Q E s := by
  have ty := z.ty
  obtain ⟨tI, s1, s2, zz⟩ := z
  rcases zz with ⟨hz, a, b, hto⟩ | ⟨T, f, oT, hz, hT⟩
  · exact wpAny_pyNext_zipD2_end S D1 D2 hz tI hto s1 s2 l1 l2 hend hQ
  · unfold pyNext
    refine wpAny_bind (wpAny_attempt (wpAny_callSpecial?_slot (name := Str.ofString "__next__") ty F.slot_zip_next (wpAny_call_entry F.slot_zip_next ty F.entry_zip_next ?_ (F.args_zip_next_1 _))))
    refine zh_end S D1 D2 hz hT tI s1 s2 l1 l2 hend fun h' tk e hk he => ?_
    obtain ⟨o, ho, hc⟩ := he
    refine wpAny_bind (wpAny_isInstance (T := "StopIteration") (b := true) ⟨o, ho, hc⟩ isSubtype_stop ?_)
    exact wpAny_pure (hQ _ _ fun c o c1 _ c3 c4 e => hk c o c1 c3 c4 e)
end
section
variable {X : Cx} {A1 : Around} {pins : List (Addr × Obj)} {σ : L2.St} {za ti to j1 j2 q : Addr} {fp1 fp2 : List Addr} {n1 n2 : Nat} {P1 P2 : Nat → Value → Prop} {St1 St2 : Nat → Heap → Prop} {xs ys : List V}
/-- what the list at q holds behind i turns -/
structure ZRun (q : Addr) (xs ys : List V) (n : Nat) (P : Nat → List V → Hp → Prop) (Q : Hp → Prop) : Prop where
  at_ : ∀ i acc H, P i acc H → H q = some (.lst acc) ∧ acc.length = i
  step : ∀ i acc H T x y, P i acc H → i < n → xs[i]? = some x → ys[i]? = some y → H T = none → P (i + 1) (acc ++ [.ref T]) (upd (upd H T (.tup [x, y])) q (.lst (acc ++ [.ref T])))
  done : ∀ acc H, P n acc H → Q H
theorem z_loop {rv : Value} {P : Nat → List V → Hp → Prop} {Qf : Hp → Prop} {Rs : Result → Shared → Prop} (S : ZipSep2 za ti to j1 j2 fp1 fp2) (D1 : Draws X.prog X.w A1.in1.in1 j1 fp1 n1 P1 St1) (D2 : Draws X.prog X.w A1.in1.in1 j2 fp2 n2 P2 St2)
    (hq1 : q ∉ fp1) (hq2 : q ∉ fp2) (hqz : q ≠ za) (hqi : q ≠ ti) (hqo : q ≠ to) (hn : min n1 n2 ≤ sizeLine)
    (r1 : ∀ i u, P1 i u → ∃ x, xs[i]? = some x ∧ RelV x u) (r2 : ∀ i u, P2 i u → ∃ x, ys[i]? = some x ∧ RelV x u) (run : ZRun q xs ys (min n1 n2) P Qf)
    (hdone : ∀ H s, Inv X pins σ H s → Qf H → Rs (.ok (.ret rv)) s) : ∀ (k i : Nat) (acc : List V) (H : Hp) (s : Shared), min n1 n2 - i = k → i ≤ min n1 n2 → Inv X pins σ H s → P i acc H → ZAt s.heap za ti to j1 j2 St1 St2 i →
      (∀ b ∈ [za, ti, to, j1, j2], FpOk X pins H b ∧ b < s.heap.objs.size) → codeAny (model X.prog X.w) A1 (.builtin "list.extend.loop" ⟨[.ref q, .ref za, rv], []⟩) Rs s := by
  intro k
  induction k with
  | zero =>
    intro i acc H s hk hi I hP z hf
    have e : i = min n1 n2 := by omega
    refine codeAny_builtin PySem.F.entry_extend_loop ?_
    rw [Around.under_plainId PySem.F.plain_extend_loop _]
    show wpAny _ A1.in1 (pyNext (.ref za) >>= _) _ _ s
    refine wpAny_bind (zn_end S D1 D2 z (by omega) (by omega) (by omega) fun h' tk hk => wpAny_pure ?_)
    rw [e] at hP
    exact hdone H _ (I.turnedL (t' := tk) (ch := [za, ti, to, j1, j2]) (fun b o hb e => hk b o (fun z => hb (by simp [z])) (fun z => hb (by simp [z])) (fun z => hb (by simp [z])) (fun z => hb (by simp [z])) e) fun b hb => (hf b hb).1) (run.done acc H hP)
  | succ k ih =>
    intro i acc H s hk hi I hP z hf
    have hlt : i < min n1 n2 := by omega
    refine codeAny_builtin PySem.F.entry_extend_loop ?_
    rw [Around.under_plainId PySem.F.plain_extend_loop _]
    show wpAny _ A1.in1 (pyNext (.ref za) >>= _) _ _ s
    refine wpAny_bind (zn_item S D1 D2 z (by omega) (by omega) fun x1 x2 h' tk y1 y2 z' hT hk' => ?_)
    obtain ⟨x, ex, rx⟩ := r1 i x1 y1
    obtain ⟨y, ey, ry⟩ := r2 i x2 y2
    have new : ObjOk X.prog X.w (upd H s.heap.objs.size (.tup [x, y])) h' s.heap.objs.size (.tup [x, y]) := ⟨by show 2 ≤ sizeLine; decide, [x1, x2], .cons rx (.cons ry .nil), ⟨_, hT, rfl, _, rfl⟩⟩
    have I1 : Inv X pins σ (upd H s.heap.objs.size (.tup [x, y])) { s with heap := h', toks := tk } :=
      I.turnedNew (t' := tk) (ch := [za, ti, to, j1, j2]) (fun b o hb e => hk' b o (fun z => hb (by simp [z])) (fun z => hb (by simp [z])) (fun z => hb (by simp [z])) (fun z => hb (by simp [z])) e) (fun b hb => (hf b hb).1) (Nat.le_refl _) new
    obtain ⟨aq, al⟩ := run.at_ i acc H hP
    have hqs : q ≠ s.heap.objs.size := ne_of_none aq (I.hok.fresh (Nat.le_refl _))
    have aq1 : upd H s.heap.objs.size (.tup [x, y]) q = some (.lst acc) := by rw [upd_ne hqs]; exact aq
    show wpAny _ A1.in1 (updateSeq q (·.push (.ref s.heap.objs.size)) >>= _) _ _ _
    obtain ⟨zl, its, kk, rl, hl, el⟩ := I1.lstM aq1
    refine wpAny_bind (wpAny_updateSeq el rfl (wpAny_pure ⟨plainId_quiet PySem.F.plain_extend_loop _, ?_⟩) (by rw [List.size_toArray]; omega) (by show (its.toArray.push _).size ≤ sizeLine + 1; rw [Array.size_push, List.size_toArray]; omega))
    have I2 := I1.lset (f := (·.push (Value.ref s.heap.objs.size))) (its' := its ++ [.ref s.heap.objs.size]) (t' := tk) aq1 el (by simp) (rl.append (.cons (show RelV (.ref s.heap.objs.size) (.ref s.heap.objs.size) from rfl) .nil)) (by rw [List.length_append, List.length_singleton]; omega)
    have ot : ∀ b o, b ≠ q → h'.get? b = some o → (h'.update q (Obj.mapSeq (·.push (Value.ref s.heap.objs.size)))).get? b = some o := fun b o hb e => (Heap.get?_update_other _ _ (Ne.symm hb)).trans e
    refine ih (i + 1) _ _ _ (by omega) (by omega) I2 (run.step i acc H s.heap.objs.size x y hP hlt ex ey (I.hok.fresh (Nat.le_refl _))) ⟨ot _ _ (Ne.symm hqi) z'.tI, D1.frame _ _ _ z'.s1 fun b hb o e => ot b o (fun z => hq1 (z ▸ hb)) e, D2.frame _ _ _ z'.s2 fun b hb o e => ot b o (fun z => hq2 (z ▸ hb)) e, ?_⟩ fun b hb => ?_
    · rcases z'.zz with ⟨hz, a, b, hto⟩ | ⟨T, f, oT, hz, hT⟩
      · exact .inl ⟨ot _ _ (Ne.symm hqz) hz, a, b, ot _ _ (Ne.symm hqo) hto⟩
      · refine .inr ⟨T, f, ?_⟩
        by_cases e : T = q
        · exact ⟨_, ot _ _ (Ne.symm hqz) hz, by rw [e]; exact Heap.get?_update_self _ el rfl⟩
        · exact ⟨oT, ot _ _ (Ne.symm hqz) hz, ot _ _ e hT⟩
    · have hb2 := hf b hb
      have hbs : b ≠ s.heap.objs.size := Nat.ne_of_lt hb2.2
      have hbq : b ≠ q := fun e => by have := hb2.1.1; rw [e, aq] at this; cases this
      refine ⟨⟨by rw [upd_ne hbq, upd_ne hbs]; exact hb2.1.1, hb2.1.2⟩, ?_⟩
      have h2 : h'.objs.size ≤ (h'.update q (Obj.mapSeq (·.push (Value.ref s.heap.objs.size)))).objs.size := by rw [Heap.size_update]; exact Nat.le_refl _
      have h3 : s.heap.objs.size < h'.objs.size := Heap.lt_size hT
      exact Nat.lt_of_lt_of_le (Nat.lt_trans hb2.2 h3) h2
theorem z_extend {rv : Value} {P : Nat → List V → Hp → Prop} {Qf : Hp → Prop} {Rs : Result → Shared → Prop} {H : Hp} {s : Shared} (S : ZipSep2 za ti to j1 j2 fp1 fp2) (D1 : Draws X.prog X.w A1.in1.in1 j1 fp1 n1 P1 St1) (D2 : Draws X.prog X.w A1.in1.in1 j2 fp2 n2 P2 St2)
    (hq1 : q ∉ fp1) (hq2 : q ∉ fp2) (hqz : q ≠ za) (hqi : q ≠ ti) (hqo : q ≠ to) (hn : min n1 n2 ≤ sizeLine)
    (r1 : ∀ i u, P1 i u → ∃ x, xs[i]? = some x ∧ RelV x u) (r2 : ∀ i u, P2 i u → ∃ x, ys[i]? = some x ∧ RelV x u) (run : ZRun q xs ys (min n1 n2) P Qf)
    (hdone : ∀ H s, Inv X pins σ H s → Qf H → Rs (.ok (.ret rv)) s) (I : Inv X pins σ H s) (hP : P 0 [] H) (z : ZAt s.heap za ti to j1 j2 St1 St2 0)
    (hf : ∀ b ∈ [za, ti, to, j1, j2], FpOk X pins H b ∧ b < s.heap.objs.size) :
    wpAny (model X.prog X.w) A1.in1 (Builtin.List.listExtendWith (.ref q) (.ref za) rv)
      (fun fin s' => match fin with | .done f => Rs (.ok f) s' | .again c' => c'.quiet = true ∧ codeAny (model X.prog X.w) A1 c' Rs s') (fun e s' => Rs (.error e) s') s := by
  obtain ⟨hq, _⟩ := run.at_ 0 [] H hP
  have ty := z.ty
  unfold Builtin.List.listExtendWith
  refine wpAny_bind (wpAny_typeOf ty ?_)
  have e1 : Builtin.List.listSameRef (.ref q) (.ref za) = false := by simp [Builtin.List.listSameRef, hqz]
  have e2 : (Value.type "zip" == Value.type "list") = false := by decide
  have e3 : (Value.type "zip" == Value.type "tuple") = false := by decide
  simp only [e1, e2, e3, Bool.or_false, Bool.false_eq_true, if_false]
  have self : ∀ (Q : Value → Shared → Prop) E, Q (.ref za) s → wpAny (model X.prog X.w) A1.in1 (pyIter (.ref za)) Q E s := by
    intro Q E h
    refine wpAny_pyIter_slot ty F.slot_zip_iter (wpAny_call_entry F.slot_zip_iter ty F.entry_zip_iter ?_ (F.args_zip_iter_1 _))
    show wpAny _ _ (ret (.ref za)) _ _ s
    exact wpAny_pure ⟨_, rfl, "zip", _, ty, F.slot_zip_next.lookup, h⟩
  refine wpAny_bind (self _ _ ?_)
  refine wpAny_bind (wpAny_holding ?_)
  unfold Builtin.List.listLengthHint
  refine wpAny_bind (wpAny_specialOf ty zp_len ?_)
  show wpAny _ A1.in1 (specialOf (Value.ref za) (Str.ofString "__length_hint__") >>= _) _ _ _
  refine wpAny_bind (wpAny_specialOf ty zp_hint ?_)
  refine wpAny_pure ?_
  obtain ⟨zl, its, k, r3, hl3, el⟩ := I.lstM hq
  cases r3
  show wpAny _ A1.in1 (rule "list.extend.makes-room" >>= fun _ => Builtin.List.listTouch (.ref q) >>= fun _ => again (.builtin "list.extend.loop" ⟨[.ref q, .ref za, rv], []⟩)) _ _ _
  refine wpAny_bind (wpAny_rule (wpAny_bind ?_))
  show wpAny _ _ (updateSeq q (·.push .none) >>= fun _ => updateSeq q (·.pop)) _ _ s
  refine wpAny_bind (wpAny_updateSeq el rfl ?_)
  have I2 := I.lset (f := (·.push Value.none)) (its' := [Value.none]) (ys := [.non]) (t' := s.toks) hq el (by simp) (.cons rfl .nil) (by rw [List.length_singleton, sizeLine_eq]; decide)
  obtain ⟨z4, its4, k4, r4, hl4, e4⟩ := I2.lstM upd_same
  obtain ⟨u4, rfl, ru4⟩ := r4.one
  refine wpAny_updateSeq e4 rfl ?_ (by show 1 ≤ sizeLine; rw [sizeLine_eq]; decide) (by show 0 ≤ sizeLine + 1; exact Nat.zero_le _)
  have I3 := I2.lset (f := (·.pop)) (its := [u4]) (its' := []) (ys := []) (t' := s.toks) upd_same e4 (by rfl) .nil (Nat.zero_le _)
  rw [upd_upd] at I3
  have hH : upd H q (.lst []) = H := by
    funext b
    by_cases hb : b = q
    · rw [hb, upd_same, hq]
    · rw [upd_ne hb]
  rw [hH] at I3
  have ot : ∀ b o, b ≠ q → s.heap.get? b = some o → ((s.heap.update q (Obj.mapSeq (·.push Value.none))).update q (Obj.mapSeq (·.pop))).get? b = some o := fun b o hb e => (Heap.get?_update_other _ _ (Ne.symm hb)).trans ((Heap.get?_update_other _ _ (Ne.symm hb)).trans e)
  refine wpAny_pure ⟨plainId_quiet PySem.F.plain_extend_loop _, z_loop S D1 D2 hq1 hq2 hqz hqi hqo hn r1 r2 run hdone _ 0 [] H _ rfl (Nat.zero_le _) I3 hP ⟨ot _ _ (Ne.symm hqi) z.tI, D1.frame _ _ _ z.s1 fun b hb o e => ot b o (fun z => hq1 (z ▸ hb)) e, D2.frame _ _ _ z.s2 fun b hb o e => ot b o (fun z => hq2 (z ▸ hb)) e, ?_⟩ fun b hb => ⟨(hf b hb).1, ?_⟩⟩
  · rcases z.zz with ⟨hz, a, b, hto⟩ | ⟨T, f, oT, hz, hT⟩
    · exact .inl ⟨ot _ _ (Ne.symm hqz) hz, a, b, ot _ _ (Ne.symm hqo) hto⟩
    · refine .inr ⟨T, f, ?_⟩
      by_cases e : T = q
      · exact ⟨_, ot _ _ (Ne.symm hqz) hz, by rw [e]; exact Heap.get?_update_self _ e4 rfl⟩
      · exact ⟨oT, ot _ _ (Ne.symm hqz) hz, ot _ _ e hT⟩
  · show b < ((s.heap.update q _).update q _).objs.size
    rw [Heap.size_update, Heap.size_update]
    exact (hf b hb).2
theorem z_call {H : Hp} {s : Shared} {Q : VK} (S : ZipSep2 za ti to j1 j2 fp1 fp2) (D1 : Draws X.prog X.w X.A.in1.in1.in1 j1 fp1 n1 P1 St1) (D2 : Draws X.prog X.w X.A.in1.in1.in1 j2 fp2 n2 P2 St2)
    (hfp : ∀ b ∈ fp1 ++ fp2, b < s.heap.objs.size) (hn : min n1 n2 ≤ sizeLine)
    (r1 : ∀ i u, P1 i u → ∃ x, xs[i]? = some x ∧ RelV x u) (r2 : ∀ i u, P2 i u → ∃ x, ys[i]? = some x ∧ RelV x u) (I : Inv X pins σ H s) (z : ZAt s.heap za ti to j1 j2 St1 St2 0)
    (hf : ∀ b ∈ [za, ti, to, j1, j2], FpOk X pins H b ∧ b < s.heap.objs.size) (hq : ∀ q, H q = none → ∃ P, P 0 [] (upd H q (.lst [])) ∧ ZRun q xs ys (min n1 n2) P fun H' => Q (.ref q) H') :
    wpAny (model X.prog X.w) X.A (call (.type "list") [.ref za]) (EP X pins σ Q) X.xe s := by
  refine callType_codes (Q₁ := fun obj s₁ => obj = .ref s.heap.objs.size ∧ s₁ = { s with heap := s.heap.push { cls := .type "list", data := .seq #[] } }) PySem.F.called_list (PySem.F.typeCall_list_1 _) PySem.F.entry_list_init (code_list_new _ ⟨rfl, rfl⟩) fun obj s₁ h₁ => ?_
  obtain ⟨rfl, rfl⟩ := h₁
  have hS : (s.heap.push { cls := .type "list", data := .seq #[] }).get? s.heap.objs.size = some ({ cls := .type "list", data := .seq #[] } : Obj) := Heap.get?_push_size _ rfl
  refine ⟨⟨_, hS, rfl⟩, PySem.F.args_list_init_2 _ _, ?_⟩
  have fr : H s.heap.objs.size = none := I.hok.fresh (Nat.le_refl _)
  obtain ⟨P, hP, run⟩ := hq _ fr
  have I1 : Inv X pins σ (upd H s.heap.objs.size (.lst [])) { s with heap := s.heap.push { cls := .type "list", data := .seq #[] } } := I.lnew (its := []) (t' := s.toks) .nil (Nat.zero_le _)
  show wpAny _ _ (do let old ← Builtin.List.listItems (.ref s.heap.objs.size); Builtin.List.listUpdate (.ref s.heap.objs.size) (fun _ => #[]); letGo old.toList.reverse; Builtin.List.listExtendWith (.ref s.heap.objs.size) (.ref za) .none) _ _ _
  refine wpAny_bind ?_
  unfold Builtin.List.listItems
  refine wpAny_bind (wpAny_seqItems hS rfl (wpAny_pure ?_))
  show wpAny _ _ (updateSeq s.heap.objs.size (fun _ => #[]) >>= fun _ => letGo (#[] : Array Value).toList.reverse >>= fun _ => Builtin.List.listExtendWith (.ref s.heap.objs.size) (.ref za) .none) _ _ _
  refine wpAny_bind (wpAny_updateSeq hS rfl (wpAny_bind (wpAny_letGo ?_)))
  have I2 := I1.lset (f := fun _ => #[]) (its := []) (its' := []) (ys := []) (t' := s.toks) upd_same hS rfl .nil (Nat.zero_le _)
  rw [upd_upd] at I2
  have ot : ∀ b o, s.heap.get? b = some o → ((s.heap.push ({ cls := .type "list", data := .seq #[] } : Obj)).update s.heap.objs.size (Obj.mapSeq fun _ => #[])).get? b = some o := fun b o e => (Heap.get?_update_other _ _ (Ne.symm (Nat.ne_of_lt (Heap.lt_size e)))).trans (Heap.get?_push_of_some _ e)
  have lt5 : ∀ b, b ∈ [za, ti, to, j1, j2] → s.heap.objs.size ≠ b := fun b hb => Nat.ne_of_gt (hf b hb).2
  refine z_extend (A1 := X.A.in1) (Rs := wants (fun r s₂ => r = .none ∧ EP X pins σ Q (.ref s.heap.objs.size) s₂) X.xe) S D1 D2 (fun h => Nat.lt_irrefl _ (hfp _ (List.mem_append_left _ h))) (fun h => Nat.lt_irrefl _ (hfp _ (List.mem_append_right _ h))) (lt5 _ (by simp)) (lt5 _ (by simp)) (lt5 _ (by simp)) hn r1 r2 run
    (fun H' s' I' hR => ⟨rfl, .ref s.heap.objs.size, H', I', rfl, hR⟩) I2 hP ⟨ot _ _ z.tI, D1.frame _ _ _ z.s1 fun b _ o e => ot b o e, D2.frame _ _ _ z.s2 fun b _ o e => ot b o e, ?_⟩ fun b hb => ⟨⟨?_, (hf b hb).1.2⟩, ?_⟩
  · rcases z.zz with ⟨hz, a, b, hto⟩ | ⟨T, f, oT, hz, hT⟩
    · exact .inl ⟨ot _ _ hz, a, b, ot _ _ hto⟩
    · exact .inr ⟨T, f, oT, ot _ _ hz, ot _ _ hT⟩
  · rw [upd_ne (Ne.symm (lt5 b hb))]
    exact (hf b hb).1.1
  · show b < ((s.heap.push _).update _ _).objs.size
    rw [Heap.size_update, Heap.size_push]
    exact Nat.lt_succ_of_lt (hf b hb).2
end
/-- list(zip(a, b)) -/
def tLZ (K : PySem.W.Frag) (ta : TA) : TE := fun σ H Q => ta σ H fun vs H1 => ∃ a b xs ys, vs = [.ref a, .ref b] ∧ ((SqL K H1 a xs ∧ SqL K H1 b ys) ∨ (SqT K H1 a xs ∧ SqT K H1 b ys)) ∧
  ∀ q, H1 q = none → ∃ P, P 0 [] (upd H1 q (.lst [])) ∧ ZRun q xs ys (min xs.length ys.length) P fun H' => Q (.ref q) H'
theorem pe_listZip {X : Cx} {e e2 : Expr} {ta : TA} {p pos p2 pos2 : Pos} (hc : X.calm = true) (gl : Gl X "list") (ml : X.mg "list" = none) (gz : Gl X "zip") (mz : X.mg "zip" = none) (ha : PA X [e, e2] ta)
    (na : starEach [.Call (.Name "zip" p2) [e, e2] [] pos2] X.env = (false, eval (.Call (.Name "zip" p2) [e, e2] [] pos2) X.env) :: starEach [] X.env := by rfl)
    (hs : starEach [e, e2] X.env = (false, eval e X.env) :: starEach [e2] X.env := by rfl) (hpl : (backTo pos2 (starEach [e2] X.env)).any (·.1) = false := by rfl) :
    PE X (.Call (.Name "list" p) [.Call (.Name "zip" p2) [e, e2] [] pos2] [] pos) (tLZ X.K ta) := by
  refine ⟨fun pins s σ H Q I h => ?_⟩
  refine Call_ (ld_blt I gl ml boot_list (PyProof.Rows.callWith_type1 (args_cons (Call_ (ld_blt I gz mz PyProof.Rows.boot_zip (PyProof.Rows.callWith_type1 (thn (ha.run pos2 pins s σ H _ I h) fun us s1 ⟨vs, H1, I1, rv, q1⟩ => ?_) hs hpl))) na) na))
  obtain ⟨a, b, xs, ys, rfl, hq, run⟩ := q1
  cases rv with
  | cons ra rr =>
    cases rr with
    | cons rb rr =>
      cases rr
      cases ra
      cases rb
      have f5 : ∀ c, c ∈ [s1.heap.objs.size + 4, s1.heap.objs.size + 2, s1.heap.objs.size + 3, s1.heap.objs.size, s1.heap.objs.size + 1] → FpOk X pins H1 c := fun c hcm => by
        have hle : s1.heap.objs.size ≤ c := by
          simp only [List.mem_cons, List.not_mem_nil, or_false] at hcm
          rcases hcm with z | z | z | z | z <;> rw [z]
          · exact Nat.le_add_right _ _
          · exact Nat.le_add_right _ _
          · exact Nat.le_add_right _ _
          · exact Nat.le_refl _
          · exact Nat.le_add_right _ _
        exact I1.fpOk hle (I1.hok.fresh hle)
      have l5 : ∀ (n c : Nat), n = s1.heap.objs.size + 5 → c ∈ [s1.heap.objs.size + 4, s1.heap.objs.size + 2, s1.heap.objs.size + 3, s1.heap.objs.size, s1.heap.objs.size + 1] → c < n := fun n c hn hcm => by
        simp only [List.mem_cons, List.not_mem_nil, or_false] at hcm
        omega
      rcases hq with ⟨hx, hy⟩ | ⟨hx, hy⟩
      · obtain ⟨its, rx, px, _⟩ := I1.list hx
        obtain ⟨its2, ry, py, _⟩ := I1.list hy
        have la := px.lt
        have lb := py.lt
        have D := PySem.W.ktu_apart s1.heap.objs.size a b la lb
        refine call_zip_2 px.isList py.isList fun h' hz hTI hTO h1 h2 hsz hk => args_nil ?_
        have I2 : Inv X pins σ H1 { s1 with heap := h' } := I1.kept (t' := s1.toks) hk
        refine z_call (s := { s1 with heap := h' }) (n1 := its.toArray.size) (n2 := its2.toArray.size) (xs := xs) (ys := ys) (fp1 := [s1.heap.objs.size, a]) (fp2 := [s1.heap.objs.size + 1, b])
          ⟨D.TIz, D.TOz, D.TITO, D.TIi1, by simp, nm2 (Ne.symm D.i1z) (Ne.symm D.l1z), nm2 (D.TOi1) (Ne.symm D.l1TO), D.TIi2, by simp, nm2 (Ne.symm D.i2z) (Ne.symm D.l2z), nm2 (D.TOi2) (Ne.symm D.l2TO), nm2 (D.i12) (Ne.symm D.l2i1), nm2 (Ne.symm D.i12) (Ne.symm D.l1i2)⟩
          (Draws.list (A := X.A.in1.in1.in1) (show X.A.in1.in1.in1.handled = none from I1.ok.hd hc) _ a D.l1i1 its.toArray) (Draws.list (A := X.A.in1.in1.in1) (show X.A.in1.in1.in1.handled = none from I1.ok.hd hc) _ b D.l2i2 its2.toArray) ?_ ?_ ?_ ?_ I2 ⟨hTI, ⟨h1, px.isList.at fun o e => hk _ o e⟩, ⟨h2, py.isList.at fun o e => hk _ o e⟩, .inl ⟨hz, _, _, hTO⟩⟩ (fun c hcm => ⟨f5 c hcm, l5 _ c hsz hcm⟩) ?_
        · intro c hcm
          show c < h'.objs.size
          rw [hsz]
          simp only [List.cons_append, List.nil_append, List.mem_cons, List.not_mem_nil, or_false] at hcm
          have la' : (a : Nat) < s1.heap.objs.size := la
          have lb' : (b : Nat) < s1.heap.objs.size := lb
          rcases hcm with z | z | z | z <;> rw [z]
          · exact Nat.lt_add_of_pos_right (by decide)
          · exact Nat.lt_of_lt_of_le la' (Nat.le_add_right _ _)
          · exact Nat.add_lt_add_left (by decide) _
          · exact Nat.lt_of_lt_of_le lb' (Nat.le_add_right _ _)
        · have := I1.list hx
          obtain ⟨_, _, _, z1⟩ := this
          have := rx.length
          rw [List.size_toArray]
          omega
        · intro i u hu
          have hu' : its[i]? = some u := by simpa using hu
          obtain ⟨hi, e⟩ := List.getElem?_eq_some_iff.mp hu'
          have hl := rx.length
          obtain ⟨u', e', r⟩ := rx.get (i := i) (x := xs[i]) (List.getElem?_eq_getElem (by omega))
          rw [hu'] at e'
          cases e'
          exact ⟨_, List.getElem?_eq_getElem (by omega), r⟩
        · intro i u hu
          have hu' : its2[i]? = some u := by simpa using hu
          obtain ⟨hi, e⟩ := List.getElem?_eq_some_iff.mp hu'
          have hl := ry.length
          obtain ⟨u', e', r⟩ := ry.get (i := i) (x := ys[i]) (List.getElem?_eq_getElem (by omega))
          rw [hu'] at e'
          cases e'
          exact ⟨_, List.getElem?_eq_getElem (by omega), r⟩
        · have e1 : its.toArray.size = xs.length := by rw [List.size_toArray, rx.length]
          have e2 : its2.toArray.size = ys.length := by rw [List.size_toArray, ry.length]
          rw [e1, e2]
          exact run
      · obtain ⟨its, rx, px, zx⟩ := I1.tuple hx
        obtain ⟨its2, ry, py, _⟩ := I1.tuple hy
        obtain ⟨o1, ho1, _⟩ := id px
        obtain ⟨o2, ho2, _⟩ := id py
        have la := Heap.lt_size ho1
        have lb := Heap.lt_size ho2
        have D := PySem.W.ktu_apart s1.heap.objs.size a b la lb
        refine RZ.call_zipT (show s1.heap.IsTuple a its.toArray from px) (show s1.heap.IsTuple b its2.toArray from py) fun h' hz hTI hTO h1 h2 hsz hk => args_nil ?_
        have I2 : Inv X pins σ H1 { s1 with heap := h' } := I1.kept (t' := s1.toks) hk
        refine z_call (s := { s1 with heap := h' }) (n1 := its.toArray.size) (n2 := its2.toArray.size) (xs := xs) (ys := ys) (fp1 := [s1.heap.objs.size, a]) (fp2 := [s1.heap.objs.size + 1, b])
          ⟨D.TIz, D.TOz, D.TITO, D.TIi1, by simp, nm2 (Ne.symm D.i1z) (Ne.symm D.l1z), nm2 (D.TOi1) (Ne.symm D.l1TO), D.TIi2, by simp, nm2 (Ne.symm D.i2z) (Ne.symm D.l2z), nm2 (D.TOi2) (Ne.symm D.l2TO), nm2 (D.i12) (Ne.symm D.l2i1), nm2 (Ne.symm D.i12) (Ne.symm D.l1i2)⟩
          (Draws.tuple (A := X.A.in1.in1.in1) (show X.A.in1.in1.in1.handled = none from I1.ok.hd hc) _ a D.l1i1 its.toArray) (Draws.tuple (A := X.A.in1.in1.in1) (show X.A.in1.in1.in1.handled = none from I1.ok.hd hc) _ b D.l2i2 its2.toArray) ?_ ?_ ?_ ?_ I2 ⟨hTI, ⟨h1, Heap.IsTuple.at px fun o e => hk _ o e⟩, ⟨h2, Heap.IsTuple.at py fun o e => hk _ o e⟩, .inl ⟨hz, _, _, hTO⟩⟩ (fun c hcm => ⟨f5 c hcm, l5 _ c hsz hcm⟩) ?_
        · intro c hcm
          show c < h'.objs.size
          rw [hsz]
          simp only [List.cons_append, List.nil_append, List.mem_cons, List.not_mem_nil, or_false] at hcm
          have la' : (a : Nat) < s1.heap.objs.size := la
          have lb' : (b : Nat) < s1.heap.objs.size := lb
          rcases hcm with z | z | z | z <;> rw [z]
          · exact Nat.lt_add_of_pos_right (by decide)
          · exact Nat.lt_of_lt_of_le la' (Nat.le_add_right _ _)
          · exact Nat.add_lt_add_left (by decide) _
          · exact Nat.lt_of_lt_of_le lb' (Nat.le_add_right _ _)
        · have := rx.length
          rw [List.size_toArray]
          omega
        · intro i u hu
          have hu' : its[i]? = some u := by simpa using hu
          obtain ⟨hi, e⟩ := List.getElem?_eq_some_iff.mp hu'
          have hl := rx.length
          obtain ⟨u', e', r⟩ := rx.get (i := i) (x := xs[i]) (List.getElem?_eq_getElem (by omega))
          rw [hu'] at e'
          cases e'
          exact ⟨_, List.getElem?_eq_getElem (by omega), r⟩
        · intro i u hu
          have hu' : its2[i]? = some u := by simpa using hu
          obtain ⟨hi, e⟩ := List.getElem?_eq_some_iff.mp hu'
          have hl := ry.length
          obtain ⟨u', e', r⟩ := ry.get (i := i) (x := ys[i]) (List.getElem?_eq_getElem (by omega))
          rw [hu'] at e'
          cases e'
          exact ⟨_, List.getElem?_eq_getElem (by omega), r⟩
        · have e1 : its.toArray.size = xs.length := by rw [List.size_toArray, rx.length]
          have e2 : its2.toArray.size = ys.length := by rw [List.size_toArray, ry.length]
          rw [e1, e2]
          exact run
/-! the same on data -/
theorem Step.wrN {K : PySem.W.Frag} {H H' : Hp} {m : Mu} {q : Addr} {u o : HO} (s : Step K H m H' m) (h0 : H q = none) (hq : H' q = some u) (hu : Mut (some u)) : Step K H m (upd H' q o) m :=
  ⟨s.keep.trans (Keep.wr hq hu), fun b z h n => by rw [upd_ne (fun e => by rw [e, h0] at h; cases h)]; exact s.fr b z h n, s.dom, fun b h => s.th b (upd_none h)⟩
theorem RepM.wrN {K : PySem.W.Frag} {H : Hp} {m : Mu} {q : Addr} {u o : HO} (M : RepM K H m) (hq : H q = some u) (hu : Mut (some u)) (hm : m q = none) : RepM K (upd H q o) m := fun a w e =>
  (M a w e).wr hq hu (fun z => by rw [z, hm] at e; cases e)
def zipK (m : Mu) (x y : D) : Option (List D) := match x with
  | .tup a => match y with
    | .tup b => some (zipItems a b)
    | _ => none
  | x => match y with
    | .tup _ => none
    | y => match seqOf m x with
      | some a => match seqOf m y with
        | some b => some (zipItems a b)
        | none => none
      | none => none
theorem zipK_rep {K : PySem.W.Frag} {H : Hp} {m : Mu} {x y : D} {v w : V} {zs : List D} (M : RepM K H m) (r1 : Rep K H x v) (r2 : Rep K H y w) (h : zipK m x y = some zs) :
    ∃ a b xs ys da db, v = .ref a ∧ w = .ref b ∧ ((SqL K H a xs ∧ SqL K H b ys) ∨ (SqT K H a xs ∧ SqT K H b ys)) ∧ Reps K H da xs ∧ Reps K H db ys ∧ zs = zipItems da db := by
  unfold zipK at h
  split at h
  · rename_i da
    split at h
    · rename_i db
      cases h
      obtain ⟨a, xs, rfl, hx, rx⟩ := Rep.tup_.mp r1
      obtain ⟨b, ys, rfl, hy, ry⟩ := Rep.tup_.mp r2
      exact ⟨a, b, xs, ys, da, db, rfl, rfl, .inr ⟨hx, hy⟩, rx, ry, rfl⟩
    · cases h
  · rename_i n1
    split at h
    · cases h
    · rename_i n2
      split at h
      · rename_i da ea
        split at h
        · rename_i db eb
          cases h
          obtain ⟨a, xs, rfl, hx, rx⟩ := seqOf_list M r1 ea (fun ds e => n1 _ e)
          obtain ⟨b, ys, rfl, hy, ry⟩ := seqOf_list M r2 eb (fun ds e => n2 _ e)
          exact ⟨a, b, xs, ys, da, db, rfl, rfl, .inl ⟨hx, hy⟩, rx, ry, rfl⟩
        · cases h
      · cases h
def nZip (ta tb : DTE) : DTA := fun r m R => ta r m fun x m1 => tb r m1 fun y m2 => match zipK m2 x y with
  | some zs => R zs m2
  | none => False
theorem dn_listZip {X : Cx} {e e2 : Expr} {ta tb : DTE} {p pos p2 pos2 : Pos} (hc : X.calm = true) (gl : Gl X "list") (ml : X.mg "list" = none) (gz : Gl X "zip") (mz : X.mg "zip" = none) (ha : DE X e ta) (hb : DE X e2 tb)
    (na : starEach [.Call (.Name "zip" p2) [e, e2] [] pos2] X.env = (false, eval (.Call (.Name "zip" p2) [e, e2] [] pos2) X.env) :: starEach [] X.env := by rfl)
    (hs : starEach [e, e2] X.env = (false, eval e X.env) :: starEach [e2] X.env := by rfl) (hs2 : starEach [e2] X.env = (false, eval e2 X.env) :: starEach [] X.env := by rfl) (hpl : (backTo pos2 (starEach [e2] X.env)).any (·.1) = false := by rfl) :
    DN X (.Call (.Name "list" p) [.Call (.Name "zip" p2) [e, e2] [] pos2] [] pos) (nZip ta tb) :=
  ⟨(pe_listZip hc gl ml gz mz (pa_cons ha.p (pa_cons hb.p pa_nil hs2) hs) na hs hpl).of fun s H Q ⟨r, m, R, hs, M, h, q⟩ => ⟨r, m, _, hs, M, h, fun x m1 v H1 h1 s1 M1 q1 => ⟨r, m1, _, hs.keep s1.keep, M1, h1, fun y m2 w H2 h2 s2 M2 q2 => by
    split at h2
    · rename_i zs ez
      obtain ⟨a, b, xs, ys, da, db, rfl, rfl, hq, rx, ry, rfl⟩ := zipK_rep M2 (q1.keep s2.keep) q2 ez
      refine ⟨a, b, xs, ys, rfl, hq, fun l hl => ⟨fun i acc H' => acc.length = i ∧ H' l = some (.lst acc) ∧ Step X.K H2 m2 H' m2 ∧ RepM X.K H' m2 ∧ Reps X.K H' ((zipItems da db).take i) acc, ⟨rfl, upd_same, Step.new hl, M2.new hl, Reps.nil⟩, ⟨fun i acc H' z => ⟨z.2.1, z.1⟩, fun i acc H' T x' y' z hi ex ey hT => ?_, fun acc H' z => ?_⟩⟩⟩
      · obtain ⟨z1, z2, z3, z4, z5⟩ := z
        have hlT : l ≠ T := ne_of_none z2 hT
        have e2 : upd H' T (.tup [x', y']) l = some (.lst acc) := by rw [upd_ne hlT]; exact z2
        obtain ⟨d1, ed1, rd1⟩ := rx.get' ex
        obtain ⟨d2, ed2, rd2⟩ := ry.get' ey
        obtain ⟨st, M', rT⟩ := rep_pair z4 hT (rd1.keep z3.keep) (rd2.keep z3.keep)
        have k2 : Keep X.K (upd H' T (.tup [x', y'])) (upd (upd H' T (.tup [x', y'])) l (.lst (acc ++ [.ref T]))) := Keep.wr e2 Mut.lst
        have hzi := zipItems_get da db i d1 d2 ed1 ed2
        refine ⟨by rw [List.length_append, z1]; rfl, upd_same, (z3.trans st).wrN hl e2 Mut.lst, M'.wrN e2 Mut.lst (M2.free hl), ?_⟩
        rw [List.take_add_one, hzi]
        exact ((z5.keep st.keep).append (Reps.one rT)).keep k2
      · obtain ⟨z1, z2, z3, z4, z5⟩ := z
        have el : (zipItems da db).take (min xs.length ys.length) = zipItems da db := List.take_of_length_le (by rw [zipItems_length, rx.length, ry.length]; exact Nat.le_refl _)
        rw [el] at z5
        have st := s1.trans s2
        exact q _ _ _ _ _ h2 (st.trans z3) z4 z2 (M2.free hl) (st.th _ hl) z5
    · exact h2.elim⟩⟩⟩
end DL

/-! dicts with row keys: a display of one pair, in; constants that are rows -/
namespace DL
open PySem PySem.Spec PyProof.Rows L2
/-- a row that the module keeps by a name -/
def TupC (K : PySem.W.Frag) (a : Addr) (xs : List V) : Prop := ∃ (o : Obj) (its : Array Value) (n : Nat), K.lookup a = some o ∧ o.cls = .type "tuple" ∧ o.data = .seq its n ∧ its.size ≤ sizeLine ∧ Vals xs its.toList
theorem de_globT {X : Cx} {x : Str} {pos : Pos} {i j : Int} (h : ∃ a, X.mg x = some (.ref a) ∧ TupC X.K a [.int i, .int j]) (hg : Gl X x) (hd : (x == ("__debug__" : Str)) = false := by decide) : DE X (.Name x pos) (dC (.tup [.int i, .int j])) := by
  obtain ⟨a, ha, hc⟩ := h
  exact de_c (v := .ref a) (pe_glob hg ha rfl hd) fun H => Rep.tup0.mpr ⟨a, _, rfl, Or.inr hc, Reps.cons (Rep.int_.mpr rfl) (Reps.one (Rep.int_.mpr rfl))⟩
section
variable {X : Cx} {a b e : Expr} {ta tb te : DTE} {t : DTA} {lo hi : Option Expr} {tl th : DTO} {pos p p2 : Pos}
end
/-! xs[::c] of a new list, c 1 or -1 -/
theorem pick_one (its : Array Value) : slicePick its none none (some 1) = its := by
  have hb : sliceBounds none none (some 1) its.size = (0, (its.size : Int), 1) := by
    first
    | rfl
    | simp [sliceBounds]
  have hr : sliceRange 0 (its.size : Int) 1 = List.range its.size := by
    unfold sliceRange
    have e : (if (1 : Int) > 0 then (if (0 : Int) < (its.size : Int) then ((its.size : Int) - 0 + 1 - 1) / 1 else 0) else (if (0 : Int) > (its.size : Int) then (0 - (its.size : Int) - 1 - 1) / (-1) else 0)) = (its.size : Int) := by
      rw [if_pos (by decide), Int.ediv_one]
      split <;> omega
    simp only [e, Int.toNat_natCast]
    have : (fun (k : Nat) => ((0 : Int) + 1 * (k : Int)).toNat) = id := by
      funext k
      show ((0 : Int) + 1 * (k : Int)).toNat = k
      omega
    rw [this, List.map_id]
  unfold slicePick
  rw [hb]
  show ((sliceRange 0 (its.size : Int) 1).filterMap (its[·]?)).toArray = _
  rw [hr, PySem.W.krv_all]
section
variable {X : Cx}
def tSgnL (K : PySem.W.Frag) (te : TE) (tt : TO) : TE := fun σ H Q => te σ H fun x H1 => tt σ H1 fun o H2 => ∃ a xs c ys, x = .ref a ∧ o = some c ∧ SqL K H2 a xs ∧ ((c = 1 ∧ ys = xs) ∨ (c = -1 ∧ ys = xs.reverse)) ∧ ∀ p, H2 p = none → Q (.ref p) (upd H2 p (.lst ys))
theorem pe_sgnL {e st : Expr} {te : TE} {tt : TO} {p3 pos : Pos} (he : PE X e te) (hst : PO X (some st) tt) : PE X (.Subscript e (.Slice none none (some st) p3) pos) (tSgnL X.K te tt) := by
  refine ⟨fun pins s σ H Q I h => ?_⟩
  refine Subscript_ (thn (he.run pins s σ H _ I h) fun v s1 ⟨x, H1, I1, r1, q1⟩ => ?_)
  refine wpAny_Slice (thn (po_none.run pins s1 σ H1 (fun o H2 => o = none ∧ H2 = H1) I1 ⟨rfl, rfl⟩) fun vl s2 ⟨l, H2, I2, pl, el, e2⟩ => ?_)
  subst el e2
  refine thn (po_none.run pins s2 σ H2 (fun o H3 => o = none ∧ H3 = H2) I2 ⟨rfl, rfl⟩) fun vu s3 ⟨u, H3, I3, pu, eu, e3⟩ => ?_
  subst eu e3
  refine thn (hst.run pins s3 σ H3 _ I3 q1) fun vs s4 ⟨o, H4, I4, ps, hq⟩ => ?_
  obtain ⟨a, xs, c, ys, ex, eo, hx, hc, q⟩ := hq
  subst ex eo
  cases r1
  have J : Inv X pins σ H4 { s4 with heap := s4.heap.push { cls := .type "slice", data := .fields #[vl, vu, vs] } } := I4.kept (t' := s4.toks) fun b ob q => Heap.get?_push_of_some _ q
  obtain ⟨its, r, ht, hz⟩ := J.list hx
  have hlen := r.length
  have c0 : c ≠ 0 := by rcases hc with ⟨h, _⟩ | ⟨h, _⟩ <;> rw [h] <;> decide
  show wpAny (model X.prog X.w) X.A (subscriptTail e (.Slice none none (some st) p3) (.ref a) (.ref s4.heap.objs.size)) (EP X pins σ Q) X.xe { s4 with heap := s4.heap.push { cls := .type "slice", data := .fields #[vl, vu, vs] } }
  refine tail_any (ops := [.ref a, .ref s4.heap.objs.size]) ht.isList.typeIs (PySem.slot_list_getitem.lookup) ?_ (by with_unfolding_all rfl)
  refine wpAny_getItem_list_slice ht.isList (Heap.IsSliceOf.new _ vl vu vs) pl pu ps (by rcases hc with ⟨h, _⟩ | ⟨h, _⟩ <;> rw [h] <;> decide) ?_ (by rw [List.size_toArray]; omega)
  rcases hc with ⟨rfl, rfl⟩ | ⟨rfl, rfl⟩
  · rw [pick_one]
    refine ⟨.ref _, _, J.laid (t' := s4.toks) (o := .lst ys) (fun b ob q => Heap.get?_push_of_some _ q) (Nat.le_refl _) ?_, rfl, q _ (J.hok.fresh (Nat.le_refl _))⟩
    exact ⟨hz, _, 0, r, Heap.get?_push_size _ rfl⟩
  · rw [PySem.W.krv_pick]
    refine ⟨.ref _, _, J.laid (t' := s4.toks) (o := .lst xs.reverse) (fun b ob q => Heap.get?_push_of_some _ q) (Nat.le_refl _) ?_, rfl, q _ (J.hok.fresh (Nat.le_refl _))⟩
    exact ⟨by rw [List.length_reverse]; exact hz, _, 0, r.reverse, Heap.get?_push_size _ rfl⟩
def nSgn (t : DTA) (tt : DTO) : DTA := fun r m R => t r m fun xs m1 => tt r m1 fun c m2 => (c = some 1 ∧ R xs m2) ∨ (c = some (-1) ∧ R xs.reverse m2)
theorem dn_sgn {e st : Expr} {t : DTA} {tt : DTO} {p3 pos : Pos} (he : DN X e t) (hst : DO' X (some st) tt) : DN X (.Subscript e (.Slice none none (some st) p3) pos) (nSgn t tt) :=
  ⟨(pe_sgnL he.p hst.p).of fun s H Q ⟨r, m, R, hs, M, h, q⟩ => ⟨r, m, _, hs, M, h, fun ds m1 a xs H1 h1 s1 M1 ha hm hH rx => ⟨r, m1, _, hs.keep s1.keep, M1, h1, fun c m2 H2 h2 s2 M2 => by
    have st := s1.trans s2
    have ha2 := s2.fr _ _ ha hm
    have rx2 := rx.keep s2.keep
    rcases h2 with ⟨ec, h2⟩ | ⟨ec, h2⟩
    · exact ⟨a, xs, 1, xs, rfl, ec, SqL.of ha2, .inl ⟨rfl, rfl⟩, fun p hp => q _ _ _ _ _ h2 (st.trans (Step.new hp)) (M2.new hp) upd_same (M2.free hp) (st.th _ hp) (rx2.keep (Keep.new hp))⟩
    · exact ⟨a, xs, -1, xs.reverse, rfl, ec, SqL.of ha2, .inr ⟨rfl, rfl⟩, fun p hp => q _ _ _ _ _ h2 (st.trans (Step.new hp)) (M2.new hp) upd_same (M2.free hp) (st.th _ hp) (rx2.reverse.keep (Keep.new hp))⟩⟩⟩⟩
end
section
variable {X : Cx} {e : Expr} {t : DTA} {p pos : Pos} {k : Nat}
end
end DL

/-! a def called by its parameters' names -/
namespace DL
open PySem PySem.Spec PyProof.Rows L2
structure DKw (X : Cx) (kws : List Keyword) (t : DTA) : Prop where
  p : PK X kws (lA X.K t)
end DL

/-! sorted of a list of pairs of ints -/
namespace DL
open PySem PySem.Spec PyProof.Rows L2
section
variable {X : Cx}
end
section
variable {X : Cx} {o : Expr} {to : DTE} {t : DTA}
end
end DL

/-! objects of a class of the text: made, their fields, their methods; a clause that keeps no name -/
namespace DL
open PySem PySem.Spec PyProof.Rows L2
/-- what the text says of a class whose objects have fields -/
structure ObjC (K : PySem.W.Frag) (mg : Str → Option Value) (c : Str) : Prop where
  ex : ∃ C, mg c = some (.ref C) ∧ clsAt K c C ∧ Cls K C
theorem RepK.lookup {K : PySem.W.Frag} {H : Hp} {f : Str} : ∀ {fs : List (Str × D)} {vs : List (Str × V)}, RepK K H fs vs → (∀ d, fs.lookup f = some d → ∃ v, vs.lookup f = some v ∧ Rep K H d v) ∧ (fs.lookup f = none → vs.lookup f = none)
  | [], vs, h => by
    unfold RepK at h
    subst h
    exact ⟨fun d e => by simp at e, fun _ => rfl⟩
  | (g, d) :: fs, vs, h => by
    unfold RepK at h
    obtain ⟨v, ws, rfl, h1, h2⟩ := h
    obtain ⟨i1, i2⟩ := RepK.lookup (f := f) h2
    by_cases e : (f == g) = true
    · constructor
      · intro d' hd
        rw [List.lookup, e] at hd
        cases hd
        exact ⟨v, by rw [List.lookup, e], h1⟩
      · intro hd
        rw [List.lookup, e] at hd
        cases hd
    · have e' : (f == g) = false := by simpa using e
      constructor
      · intro d' hd
        rw [List.lookup, e'] at hd
        obtain ⟨v', a, b⟩ := i1 d' hd
        exact ⟨v', by rw [List.lookup, e']; exact a, b⟩
      · intro hd
        rw [List.lookup, e'] at hd
        rw [List.lookup, e']
        exact i2 hd
section
variable {X : Cx} {e o : Expr} {te to : DTE} {pos apos : Pos} {c f : Str}
theorem RepK.len {κ : Type} {K : PySem.W.Frag} {H : Hp} : ∀ {fs : List (κ × D)} {vs : List (κ × V)}, RepK K H fs vs → fs.length = vs.length
  | [], vs, h => by unfold RepK at h; subst h; rfl
  | (g, x) :: fs, vs, h => by
    unfold RepK at h
    obtain ⟨w, ws, rfl, _, h2⟩ := h
    simp [RepK.len h2]
/-! ### defs of a class -/
structure DefM (P : Program) (w : World) (K : PySem.W.Frag) (mg : Str → Option Value) (base : Heap) (c mn : Str) (k : Nat) (ps : List Str) (sp : DSp) : Prop where
  ex : ∃ (C f : Addr) (fd : FuncData), clsAt K c C ∧ Cls K C ∧ Meth K C mn f ∧ FnOk P w K mg base CX0 k f fd ps (lSp K sp) ∧ Binds K fd ps []
structure DefMX (P : Program) (w : World) (K : PySem.W.Frag) (mg : Str → Option Value) (base : Heap) (c mn : Str) (k : Nat) (ps : List Str) (sp : DSp) : Prop where
  ex : ∃ (C f : Addr) (fd : FuncData), clsAt K c C ∧ Cls K C ∧ Meth K C mn f ∧ FnOk P w K mg base (L2.CX P w) k f fd ps (lSp K sp) ∧ Binds K fd ps []
/-! ### C(..) -/
structure DefMk (P : Program) (w : World) (K : PySem.W.Frag) (mg : Str → Option Value) (base : Heap) (c : Str) (k : Nat) (ps : List Str) (sp : DSp) : Prop where
  ex : ∃ (C f : Addr) (fd : FuncData), mg c = some (.ref C) ∧ clsAt K c C ∧ Mk K C f ∧ FnOk P w K mg base CX0 k f fd ps (lSp K sp) ∧ Binds K fd ps []
end
/-! ### defs of a class, from their texts -/
/-- where a def of a class stands -/
structure MethAt (K : PySem.W.Frag) (c mn qual : Str) (st : Stmt) : Prop where
  ex : ∃ (C f : Addr) (fd : FuncData), clsAt K c C ∧ Cls K C ∧ PySem.W.findIn K (.ref C) mn = some (some (.ref f)) ∧ PySem.W.isFn K (.ref f) = true ∧ Fun K mn qual st f fd
structure MakeAt (K : PySem.W.Frag) (mg : Str → Option Value) (c qual : Str) (st : Stmt) : Prop where
  ex : ∃ (C f : Addr) (fd : FuncData), mg c = some (.ref C) ∧ clsAt K c C ∧ Mk K C f ∧ Fun K "__init__" qual st f fd
section
variable {P : Program} {w : World} {K : PySem.W.Frag} {mg : Str → Option Value} {base : Heap} {c mn qual : Str} {st : Stmt} {N ps : List Str} {k : Nat} {sp sx : DSp} {t : DTS} {tx : DTX}
end
end DL

/-! dicts whose keys are ints or texts -/
namespace DL
open PySem PySem.Spec PyProof.Rows L2
section
variable {X : Cx} {o e i value : Expr} {to te ti tv : DTE} {p pos pos' : Pos}
end
end DL

/-! texts: partition, split, int(text), f-strings, one sign in a text -/
namespace DL
open PySem PySem.Spec PyProof.Rows L2
section
variable {X : Cx} {o e : Expr} {es : List Expr} {to te : DTE} {t : DTA} {apos cpos pos p : Pos}
inductive DJ (X : Cx) : List Expr → List DTE → Prop where
  | nil : DJ X [] []
  | cons {e : Expr} {t : DTE} {es : List Expr} {ts : List DTE} (h : DE X e t) (r : DJ X es ts) : DJ X (e :: es) (t :: ts)
end
end DL

/-! tuple(zip(a, b)), tuple(range(n)), xs.count(k) of a list of ints -/
namespace DL
open PySem PySem.Spec PyProof.Rows L2
open Sem (wp)
section
variable {X : Cx} {pins : List (Addr × Obj)} {σ : L2.St} {za ti to j1 j2 : Addr} {fp1 fp2 : List Addr} {n1 n2 : Nat} {P1 P2 : Nat → Value → Prop} {St1 St2 : Nat → Heap → Prop} {xs ys : List V}
end
section
end
section
variable {X : Cx} {o e : Expr} {es : List Expr} {to te : DTE} {t : DTA} {apos cpos pos p : Pos}
end
section
variable {X : Cx}
end
end DL

/-! xs.remove(x) of data, xs.clear(), range with a step, xs[i] += e, slices of tuples from a place with a step -/
namespace DL
open PySem PySem.Spec PyProof.Rows L2
open Sem (wp)
/-! ### xs.remove(x) -/
section
variable {X : Cx}
end
section
variable {X : Cx} {o e : Expr} {to t : DTE} {k : Nat}
end
section
variable {X : Cx} {tg : Expr} {pos : Pos}
end
/-! ### xs[i] += e, xs[i] -= e -/
section
variable {X : Cx}
end
section
variable {prog : Program} {w : World} {A : Around} {E : Value → Shared → Prop} {s : Shared}
end
section
variable {X : Cx}
end
end DL

/-! equations of the readings, for simp -/
namespace DL
open PySem PySem.Spec PyProof.Rows L2
/-- a bool; a row's items; a list at an address; an item by its place -/
def bK (x : D) (k : Bool → Prop) : Prop := match x with
  | .bl c => k c
  | _ => False
def lstK (o : Option O) (k : List D → Prop) : Prop := match o with
  | some (.lst ds) => k ds
  | _ => False
def atK (ds : List D) (i : Int) (k : D → Prop) : Prop := match atI ds i with
  | some d => k d
  | none => False
def setK (ds : List D) (i : Int) (d : D) (k : List D → Prop) : Prop := match ixN ds.length i with
  | some j => k (ds.set j d)
  | none => False
def intK (x : D) (k : Int → Prop) : Prop := match x with
  | .int i => k i
  | _ => False
def refK (x : D) (k : Addr → Prop) : Prop := match x with
  | .ref a => k a
  | _ => False
def optK {α : Type} (o : Option α) (k : α → Prop) : Prop := match o with
  | some x => k x
  | none => False
section
variable {m : Mu} {r : DSt} {R : DK} {E : DEnds} {ta tb tc te to : DTE} {t u : DTA} {i j : Int} {a b : Addr} {ds es : List D} {d e : D}
theorem bK_bl (c : Bool) (k : Bool → Prop) : bK (.bl c) k = k c := id rfl
theorem lstK_lst (ds : List D) (k : List D → Prop) : lstK (some (.lst ds)) k = k ds := id rfl
theorem intK_int (i : Int) (k : Int → Prop) : intK (.int i) k = k i := id rfl
theorem optK_some {α : Type} (x : α) (k : α → Prop) : optK (some x) k = k x := id rfl
theorem tBool_ (t : DTE) (R : Bool → Mu → Prop) : tBool t r m R = t r m fun x m1 => bK x fun c => R c m1 := id rfl
theorem dAndV_ : dAndV ta tb r m R = ta r m fun x m1 => bK x fun c => if c = true then tb r m1 R else R (.bl false) m1 := id rfl
theorem gI_ {C : Int → Int → Prop} {f : Int → Int → D} : gI C f (.int i) (.int j) m R = (C i j ∧ R (f i j) m) := id rfl
theorem gI0_ {f : Int → Int → D} : gI0 f (.int i) (.int j) m R = R (f i j) m := id rfl
theorem gAdd_int : gAdd (.int i) (.int j) m R = R (.int (i + j)) m := id rfl
theorem gAdd_tup : gAdd (.tup ds) (.tup es) m R = (ds.length + es.length ≤ sizeLine ∧ R (.tup (ds ++ es)) m) := id rfl
theorem gAdd_ref : gAdd (.ref a) (.ref b) m R = lstK (m a) fun xs => lstK (m b) fun ys => xs.length + ys.length ≤ sizeLine ∧ ∀ c, m c = none → R (.ref c) (mput m c (.lst (xs ++ ys))) := by
  simp only [gAdd, lstK] <;> (generalize m a = o; generalize m b = o2; rcases o with _ | (_ | _ | _ | _ | _) <;> rcases o2 with _ | (_ | _ | _ | _ | _) <;> rfl)
theorem gNeg_ : gNeg (.int i) m R = R (.int (-i)) m := id rfl
theorem gIx_tup : gIx (.tup ds) (.int i) m R = atK ds i fun d => R d m := id rfl
theorem gIx_ref : gIx (.ref a) (.int i) m R = lstK (m a) fun ds => atK ds i fun d => R d m := by
  simp only [gIx, seqOf, lstK, atK] <;> (generalize m a = o; rcases o with _ | (_ | _ | _ | _ | _) <;> rfl)
theorem atK_0 {x : D} {l : List D} {k : D → Prop} : atK (x :: l) 0 k = k x := by
  have e : atI (x :: l) 0 = some x := atI_nat (j := 0) rfl
  unfold atK; rw [e]
theorem atK_1 {x y : D} {l : List D} {k : D → Prop} : atK (x :: y :: l) 1 k = k y := by
  have e : atI (x :: y :: l) 1 = some y := atI_nat (j := 1) rfl
  unfold atK; rw [e]
theorem atK_2 {x y z : D} {l : List D} {k : D → Prop} : atK (x :: y :: z :: l) 2 k = k z := by
  have e : atI (x :: y :: z :: l) 2 = some z := atI_nat (j := 2) rfl
  unfold atK; rw [e]
theorem atK_3 {x y z w : D} {l : List D} {k : D → Prop} : atK (x :: y :: z :: w :: l) 3 k = k w := by
  have e : atI (x :: y :: z :: w :: l) 3 = some w := atI_nat (j := 3) rfl
  unfold atK; rw [e]
theorem atK_last {x : D} {l : List D} {k : D → Prop} : atK (l ++ [x]) (-1) k = k x := by
  unfold atK; rw [atI_last]
theorem atK_nat {l : List D} {n : Nat} {x : D} {k : D → Prop} (h : l[n]? = some x) : atK l (n : Int) k = k x := by
  unfold atK; rw [atI_nat h]
theorem atK_of {l : List D} {i : Int} {n : Nat} {x : D} {k : D → Prop} (e : i = n) (h : l[n]? = some x) (q : k x) : atK l i k := by
  subst e; rw [atK_nat h]; exact q
theorem setK_of {l : List D} {i : Int} {n : Nat} {x : D} {k : List D → Prop} (e : i = n) (h : n < l.length) (q : k (l.set n x)) : setK l i x k := by
  subst e
  unfold setK ixN
  rw [if_pos (by omega), if_pos (by omega)]
  exact q

theorem setK_0 {x0 y : D} {l : List D} {k : List D → Prop} : setK (x0 :: l) 0 y k = k (y :: l) := by
  apply propext
  constructor
  · intro h
    unfold setK ixN at h
    rw [if_pos (by omega), if_pos (by simp only [List.length_cons]; omega)] at h
    exact h
  · exact fun h => setK_of (n := 0) rfl (by simp only [List.length_cons]; omega) h
theorem setK_2 {x0 x1 x2 y : D} {l : List D} {k : List D → Prop} : setK (x0 :: x1 :: x2 :: l) 2 y k = k (x0 :: x1 :: y :: l) := by
  apply propext
  constructor
  · intro h
    unfold setK ixN at h
    rw [if_pos (by omega), if_pos (by simp only [List.length_cons]; omega)] at h
    exact h
  · exact fun h => setK_of (n := 2) rfl (by simp only [List.length_cons]; omega) h
theorem gLen_tup : gLen [.tup ds] m R = R (.int ds.length) m := id rfl
theorem gLen_rl : gLen [.rl ds] m R = R (.int ds.length) m := id rfl
theorem gLen_ref : gLen [.ref a] m R = lstK (m a) fun ds => R (.int ds.length) m := by
  simp only [gLen, seqOf, lstK] <;> (generalize m a = o; rcases o with _ | (_ | _ | _ | _ | _) <;> rfl)
theorem gTupleOf_ref : gTupleOf [.ref a] m R = lstK (m a) fun ds => R (.tup ds) m := by
  simp only [gTupleOf, seqOf, lstK] <;> (generalize m a = o; rcases o with _ | (_ | _ | _ | _ | _) <;> rfl)
def seqK (m : Mu) (d : D) (k : List D → Prop) : Prop := match seqOf m d with
  | some ds => k ds
  | none => False
theorem seqK_tup {k : List D → Prop} : seqK m (.tup ds) k = k ds := id rfl
theorem seqK_ref {k : List D → Prop} : seqK m (.ref a) k = lstK (m a) k := by
  simp only [seqK, seqOf, lstK] <;> (generalize m a = o; rcases o with _ | (_ | _ | _ | _ | _) <;> rfl)
theorem nListOf_ {R : List D → Mu → Prop} : nListOf te r m R = te r m fun d m1 => seqK m1 d fun xs => R xs m1 := id rfl
theorem isLst_ref : isLst m (.ref a) = ∃ xs, m a = some (.lst xs) := id rfl
theorem gAppend_ : gAppend (.ref a) [d] m R = lstK (m a) fun xs => xs.length < sizeLine ∧ R .non (mput m a (.lst (xs ++ [d]))) := by
  simp only [gAppend, lstK] <;> (generalize m a = o; rcases o with _ | (_ | _ | _ | _ | _) <;> rfl)
theorem refK_ref {k : Addr → Prop} : refK (.ref a) k = k a := id rfl
theorem dExtN_ : dExtN to t r m R = to r m fun x m1 => isLst m1 x ∧ t r m1 fun zs m2 => refK x fun a => lstK (m2 a) fun xs => xs.length + zs.length ≤ sizeLine ∧ R .non (mput m2 a (.lst (xs ++ zs))) := by
  rfl
theorem gExt_ : gExt (.ref a) [.ref b] m R = lstK (m a) fun xs => lstK (m b) fun ys => xs.length + ys.length ≤ sizeLine ∧ R .non (mput m a (.lst (xs ++ ys))) := by
  simp only [gExt, lstK] <;> (generalize m a = o; generalize m b = o2; rcases o with _ | (_ | _ | _ | _ | _) <;> rcases o2 with _ | (_ | _ | _ | _ | _) <;> rfl)
theorem gSetIx_ {ti : DTE} {R : DSt → Mu → Prop} : gSetIx to ti d r m R = to r m fun x m1 => ti r m1 fun y m2 => refK x fun a => intK y fun k => lstK (m2 a) fun xs => setK xs k d fun ys => R r (mput m2 a (.lst ys)) := by
  unfold gSetIx
  congr 1
  funext x m1
  congr 1
  funext y m2
  simp only [refK, intK, lstK, setK]
  cases x <;> cases y <;> rfl
def itK (o : Option DIt) (k : DIt → Prop) : Prop := match o with
  | some it => k it
  | none => False
theorem itK_some (it : DIt) (k : DIt → Prop) : itK (some it) k = k it := id rfl
theorem iRow_ {R : DIt → Mu → Prop} : iRow te r m R = te r m fun x m1 => itK (rowIt m1 x) fun it => R it m1 := id rfl
theorem rowIt_tup : rowIt m (.tup ds) = some ⟨ds, fun _ => True⟩ := id rfl
theorem rowIt_rl : rowIt m (.rl ds) = some ⟨ds, fun _ => True⟩ := id rfl
theorem rowIt_ref : rowIt m (.ref a) = match m a with
    | some (.lst ds) => some ⟨ds, fun m => m a = some (.lst ds)⟩
    | _ => none := id rfl
theorem rowIt_lst (h : m a = some (.lst ds)) : rowIt m (.ref a) = some ⟨ds, fun m => m a = some (.lst ds)⟩ := by rw [rowIt_ref, h]
theorem iRng1_ {R : DIt → Mu → Prop} : iRng1' te r m R = te r m fun x m1 => intK x fun j => (-(2 ^ 62) ≤ j ∧ j < 2 ^ 62) ∧ R ⟨rngItems 0 j.toNat, fun _ => True⟩ m1 := id rfl
theorem iRng2_ {R : DIt → Mu → Prop} : iRng2' ta tb r m R = ta r m fun x m1 => tb r m1 fun y m2 => intK x fun i => intK y fun j => (-(2 ^ 62) ≤ i ∧ i < 2 ^ 62 ∧ -(2 ^ 62) ≤ j ∧ j < 2 ^ 62) ∧ R ⟨rngItems i (j - i).toNat, fun _ => True⟩ m2 := by
  unfold iRng2'
  congr 1
  funext x m1
  congr 1
  funext y m2
  cases x <;> cases y <;> rfl
theorem iZip_ {R : DIt → Mu → Prop} : iZip' ta tb r m R = ta r m fun x m1 => tb r m1 fun y m2 => itK (rowIt m2 x) fun a => itK (rowIt m2 y) fun b => R ⟨zipItems a.items b.items, fun m => a.guard m ∧ b.guard m⟩ m2 := id rfl
theorem gNil_ {R : DSt → Mu → Prop} : gNil' [] r m R = R r m := id rfl
theorem gCons_ {g : DTG} {gs : DTGs} {R : DSt → Mu → Prop} : gCons' g gs (d :: ds) r m R = g d r m fun r' m' => gs ds r' m' R := id rfl
theorem gTup_ {n : Nat} {gs : DTGs} {R : DSt → Mu → Prop} : gTup' n gs (.tup ds) r m R = (ds.length = n ∧ gs ds r m R) := id rfl
theorem gAbs_ : gAbs [.int i] m R = R (.int (if i < 0 then -i else i)) m := id rfl
theorem gMax2_ : gMax2 [.int i, .int j] m R = R (.int (if j > i then j else i)) m := id rfl
theorem gInt_bl {c : Bool} : gInt [.bl c] m R = R (.int (if c then 1 else 0)) m := id rfl
theorem gLe_int : gLe (.int i) (.int j) m R = R (.bl (decide (i ≤ j))) m := id rfl
/-! ### == -/
theorem gEq_int : gEq (.int i) (.int j) m R = R (.bl (decide (i = j))) m := by
  show R (.bl (i == j)) m = _
  congr 2
theorem gNe_int : gNe (.int i) (.int j) m R = R (.bl (!decide (i = j))) m := by
  show R (.bl (!(i == j))) m = _
  congr 2
theorem gEq_of {x y : D} {p q : PyData} (hx : py m deep x = some p) (hy : py m deep y = some q) (h : R (.bl (PyData.eqv p q)) m) : gEq x y m R := by
  unfold gEq
  split
  · rename_i i j
    have e1 : p = .str i := by
      unfold py at hx; simp only at hx; split at hx <;> simp at hx; exact hx.symm
    have e2 : q = .str j := by
      unfold py at hy; simp only at hy; split at hy <;> simp at hy; exact hy.symm
    rw [e1, e2] at h
    unfold PyData.eqv at h
    exact h
  · simp only [hx, hy]; exact h
theorem gNe_of {x y : D} {p q : PyData} (hx : py m deep x = some p) (hy : py m deep y = some q) (h : R (.bl (!PyData.eqv p q)) m) : gNe x y m R := by
  unfold gNe
  split
  · rename_i i j
    have e1 : p = .str i := by
      unfold py at hx; simp only at hx; split at hx <;> simp at hx; exact hx.symm
    have e2 : q = .str j := by
      unfold py at hy; simp only at hy; split at hy <;> simp at hy; exact hy.symm
    rw [e1, e2] at h
    unfold PyData.eqv at h
    exact h
  · simp only [hx, hy]; exact h
/-! ### slices -/
theorem oNone_ {R : Option Int → Mu → Prop} : oNone r m R = R none m := id rfl
theorem oSome_ {R : Option Int → Mu → Prop} : oSome te r m R = te r m fun x m1 => intK x fun i => R (some i) m1 := id rfl
theorem gStep_tup {c : Int} : gStep (some c) (.tup ds) m R = (c ≠ 0 ∧ c ≠ 1 ∧ (stepD c ds).length ≤ sizeLine ∧ R (.tup (stepD c ds)) m) := id rfl
theorem gCut_tup {lo hi : Option Int} : gCut lo hi (.tup ds) m R = R (.tup (cutD ds lo hi)) m := id rfl
theorem gCut_ref {lo hi : Option Int} : gCut lo hi (.ref a) m R = lstK (m a) fun ds => ∀ b, m b = none → R (.ref b) (mput m b (.lst (cutD ds lo hi))) := by
  simp only [gCut, seqOf, lstK] <;> (generalize m a = o; rcases o with _ | (_ | _ | _ | _ | _) <;> rfl)
/-- the items of a held or read list -/
def rowK (m : Mu) (x : D) (k : List D → Prop) : Prop := match x with
  | .tup _ => False
  | x => match seqOf m x with
    | some ds => k ds
    | none => False
theorem rowK_ref {k : List D → Prop} : rowK m (.ref a) k = lstK (m a) k := by
  simp only [rowK, seqOf, lstK] <;> (generalize m a = o; rcases o with _ | (_ | _ | _ | _ | _) <;> rfl)
theorem nCut_ {tl th : DTO} {R : List D → Mu → Prop} : nCut te tl th r m R = te r m fun x m1 => tl r m1 fun l m2 => th r m2 fun u m3 => rowK m3 x fun ds => R (cutD ds l u) m3 := by
  rfl
theorem nRev_ {R : List D → Mu → Prop} : nRev te r m R = te r m fun x m1 => rowK m1 x fun ds => R ds.reverse m1 := id rfl
theorem nCatEN_ {R : List D → Mu → Prop} : nCatEN ta u r m R = ta r m fun x m1 => u r m1 fun ys m2 => refK x fun a => lstK (m2 a) fun xs => xs.length + ys.length ≤ sizeLine ∧ R (xs ++ ys) m2 := by
  rfl
theorem nRep_ {R : List D → Mu → Prop} : nRep t tb r m R = t r m fun xs m1 => tb r m1 fun y m2 => intK y fun k => (-(2 ^ 63) ≤ k ∧ k < 2 ^ 63 ∧ xs.length * k.toNat ≤ sizeLine) ∧ R (List.replicate k.toNat xs).flatten m2 := id rfl
theorem dIxN_ : dIxN t tb r m R = t r m fun xs m1 => tb r m1 fun y m2 => intK y fun i => atK xs i fun d => R d m2 := id rfl
theorem sAug_ {n : Nat} {g : G2} : sAug n te g E r m = dVar n r m fun x _ => te r m fun y m1 => g x y m1 fun z m2 => E.nx (r.set n (some z)) m2 := by
  unfold sAug dVar
  rfl
theorem gIn_ {neg : Bool} : gIn neg d e m R = optK (py m deep d) fun p => seqK m e fun ds => optK (pyAll (py m deep) ds) fun qs => R (.bl (xor neg (qs.any fun z => PyData.eqv z p))) m := by
  unfold gIn optK seqK
  cases py m deep d <;> try rfl
  cases seqOf m e <;> try rfl
  rename_i ds
  simp only
  cases pyAll (py m deep) ds <;> rfl
theorem gEqNN_ {neg : Bool} : gEqNN neg ds es m R = optK (pyAll (py m deep) ds) fun ps => optK (pyAll (py m deep) es) fun qs => R (.bl (xor neg (PyData.eqv (.list ps) (.list qs)))) m := by
  unfold gEqNN optK
  cases pyAll (py m deep) ds <;> try rfl
  simp only
  cases pyAll (py m deep) es <;> rfl
theorem gMax4_ {k l : Int} : gMax4 [.int i, .int j, .int k, .int l] m R = R (.int (mx (mx (mx i j) k) l)) m := id rfl
def zK (m : Mu) (x y : D) (k : List D → Prop) : Prop := match zipK m x y with
  | some zs => k zs
  | none => False
theorem nZip_ {R : List D → Mu → Prop} : nZip ta tb r m R = ta r m fun x m1 => tb r m1 fun y m2 => zK m2 x y fun zs => R zs m2 := id rfl
theorem zK_tup {k : List D → Prop} : zK m (.tup ds) (.tup es) k = k (zipItems ds es) := id rfl
theorem zK_ref {k : List D → Prop} : zK m (.ref a) (.ref b) k = lstK (m a) fun xs => lstK (m b) fun ys => k (zipItems xs ys) := by
  simp only [zK, zipK, seqOf, lstK] <;> (generalize m a = o; generalize m b = o2; rcases o with _ | (_ | _ | _ | _ | _) <;> rcases o2 with _ | (_ | _ | _ | _ | _) <;> rfl)
theorem dVar_0 {r : DSt} : dVar 0 (some d :: r) m R = R d m := id rfl
theorem dVar_1 {o0 : Option D} {r : DSt} : dVar 1 (o0 :: some d :: r) m R = R d m := id rfl
theorem dVar_2 {o0 o1 : Option D} {r : DSt} : dVar 2 (o0 :: o1 :: some d :: r) m R = R d m := id rfl
theorem dVar_3 {o0 o1 o2 : Option D} {r : DSt} : dVar 3 (o0 :: o1 :: o2 :: some d :: r) m R = R d m := id rfl
theorem dVar_4 {o0 o1 o2 o3 : Option D} {r : DSt} : dVar 4 (o0 :: o1 :: o2 :: o3 :: some d :: r) m R = R d m := id rfl
theorem dVar_5 {o0 o1 o2 o3 o4 : Option D} {r : DSt} : dVar 5 (o0 :: o1 :: o2 :: o3 :: o4 :: some d :: r) m R = R d m := id rfl
theorem dVar_6 {o0 o1 o2 o3 o4 o5 : Option D} {r : DSt} : dVar 6 (o0 :: o1 :: o2 :: o3 :: o4 :: o5 :: some d :: r) m R = R d m := id rfl
theorem dVar_7 {o0 o1 o2 o3 o4 o5 o6 : Option D} {r : DSt} : dVar 7 (o0 :: o1 :: o2 :: o3 :: o4 :: o5 :: o6 :: some d :: r) m R = R d m := id rfl
theorem dVar_8 {o0 o1 o2 o3 o4 o5 o6 o7 : Option D} {r : DSt} : dVar 8 (o0 :: o1 :: o2 :: o3 :: o4 :: o5 :: o6 :: o7 :: some d :: r) m R = R d m := id rfl
theorem dVar_9 {o0 o1 o2 o3 o4 o5 o6 o7 o8 : Option D} {r : DSt} : dVar 9 (o0 :: o1 :: o2 :: o3 :: o4 :: o5 :: o6 :: o7 :: o8 :: some d :: r) m R = R d m := id rfl
theorem dVar_10 {o0 o1 o2 o3 o4 o5 o6 o7 o8 o9 : Option D} {r : DSt} : dVar 10 (o0 :: o1 :: o2 :: o3 :: o4 :: o5 :: o6 :: o7 :: o8 :: o9 :: some d :: r) m R = R d m := id rfl
theorem dVar_11 {o0 o1 o2 o3 o4 o5 o6 o7 o8 o9 o10 : Option D} {r : DSt} : dVar 11 (o0 :: o1 :: o2 :: o3 :: o4 :: o5 :: o6 :: o7 :: o8 :: o9 :: o10 :: some d :: r) m R = R d m := id rfl
theorem sz_0 : ((0 : Nat) ≤ sizeLine) = True := eq_true (by decide)
theorem sz_1 : ((1 : Nat) ≤ sizeLine) = True := eq_true (by decide)
theorem sz_2 : ((2 : Nat) ≤ sizeLine) = True := eq_true (by decide)
theorem sz_3 : ((3 : Nat) ≤ sizeLine) = True := eq_true (by decide)
theorem sz_4 : ((4 : Nat) ≤ sizeLine) = True := eq_true (by decide)
theorem sz_5 : ((5 : Nat) ≤ sizeLine) = True := eq_true (by decide)
theorem sz_6 : ((6 : Nat) ≤ sizeLine) = True := eq_true (by decide)
end
theorem u_sSeq (t u : DTS) (E : DEnds) (r : DSt) (m : Mu) : sSeq t u E r m = (t { E with nx := u E } r m) := id rfl
theorem u_sNext  (E : DEnds) (r : DSt) (m : Mu) : sNext E r m = (E.nx r m) := id rfl
theorem u_sSet (i : Nat) (te : DTE) (E : DEnds) (r : DSt) (m : Mu) : sSet i te E r m = (te r m fun x m1 => E.nx (r.set i (some x)) m1) := id rfl
theorem u_sSetN (i : Nat) (t : DTA) (E : DEnds) (r : DSt) (m : Mu) : sSetN i t E r m = (t r m fun xs m1 => ∀ a, m1 a = none → E.nx (r.set i (some (.ref a))) (mput m1 a (.lst xs))) := id rfl
theorem u_sAsg (te : DTE) (g : DTG) (E : DEnds) (r : DSt) (m : Mu) : sAsg te g E r m = (te r m fun x m1 => g x r m1 E.nx) := id rfl
theorem u_sIf (c : DTT) (t u : DTS) (E : DEnds) (r : DSt) (m : Mu) : sIf c t u E r m = (c r m fun b m1 => if b = true then t E r m1 else u E r m1) := id rfl
theorem u_sRet (te : DTE) (E : DEnds) (r : DSt) (m : Mu) : sRet te E r m = (te r m E.rt) := id rfl
theorem u_sDrop (te : DTE) (E : DEnds) (r : DSt) (m : Mu) : sDrop te E r m = (te r m fun _ m1 => E.nx r m1) := id rfl
theorem u_sPar (i j : Nat) (ta tb : DTE) (E : DEnds) (r : DSt) (m : Mu) : sPar i j ta tb E r m = (ta r m fun x m1 => tb r m1 fun y m2 => E.nx ((r.set i (some x)).set j (some y)) m2) := id rfl
theorem u_sFor (wi : DTI) (g : DTG) (tb : DTS) (E : DEnds) (r : DSt) (m : Mu) : sFor wi g tb E r m = (wi r m fun it m1 => forL it.guard g tb it.items E r m1) := id rfl
theorem u_dC (d : D) (z0 : DSt) (m : Mu) (R : DK) : dC d z0 m R = (R d m) := id rfl
theorem u_d2 (g : G2) (ta tb : DTE) (r : DSt) (m : Mu) (R : DK) : d2 g ta tb r m R = (ta r m fun x m1 => tb r m1 fun y m2 => g x y m2 R) := id rfl
theorem u_d1 (g : D → Mu → DK → Prop) (ta : DTE) (r : DSt) (m : Mu) (R : DK) : d1 g ta r m R = (ta r m fun x m1 => g x m1 R) := id rfl
theorem u_dTup (t : DTA) (r : DSt) (m : Mu) (R : DK) : dTup t r m R = (t r m fun xs m1 => xs.length ≤ sizeLine ∧ R (.tup xs) m1) := id rfl
theorem u_dNew (t : DTA) (r : DSt) (m : Mu) (R : DK) : dNew t r m R = (t r m fun xs m1 => ∀ a, m1 a = none → R (.ref a) (mput m1 a (.lst xs))) := id rfl
theorem u_aNil  (z0 : DSt) (m : Mu) (R : List D → Mu → Prop) : aNil z0 m R = (R [] m) := id rfl
theorem u_aCons (ta : DTE) (tr : DTA) (r : DSt) (m : Mu) (R : List D → Mu → Prop) : aCons ta tr r m R = (ta r m fun x m1 => tr r m1 fun xs m2 => R (x :: xs) m2) := id rfl
theorem u_nLst (t : DTA) (r : DSt) (m : Mu) (R : List D → Mu → Prop) : nLst t r m R = (t r m fun xs m1 => xs.length ≤ sizeLine ∧ R xs m1) := id rfl
theorem u_tAnd' (t u : DTT) (r : DSt) (m : Mu) (R : Bool → Mu → Prop) : tAnd' t u r m R = (t r m fun c m1 => if c = true then u r m1 R else R false m1) := id rfl
theorem u_tOr' (t u : DTT) (r : DSt) (m : Mu) (R : Bool → Mu → Prop) : tOr' t u r m R = (t r m fun c m1 => if c = true then R true m1 else u r m1 R) := id rfl
theorem u_tNot' (t : DTT) (r : DSt) (m : Mu) (R : Bool → Mu → Prop) : tNot' t r m R = (t r m fun c m1 => R (!c) m1) := id rfl
theorem u_gName' (i : Nat) (d : D) (r : DSt) (m : Mu) (R : DSt → Mu → Prop) : gName' i d r m R = (R (r.set i (some d)) m) := id rfl
theorem u_dCall (sp : DSp) (t : DTA) (r : DSt) (m : Mu) (R : DK) : dCall sp t r m R = (t r m fun ds m1 => sp ds m1 R X0) := id rfl
theorem u_dB (g : List D → Mu → DK → Prop) (t : DTA) (r : DSt) (m : Mu) (R : DK) : dB g t r m R = (t r m fun ds m1 => g ds m1 R) := id rfl
theorem u_dTupN (t : DTA) (r : DSt) (m : Mu) (R : DK) : dTupN t r m R = (t r m fun xs m1 => R (.tup xs) m1) := id rfl
theorem u_dM (g : D → List D → Mu → DK → Prop) (to : DTE) (t : DTA) (r : DSt) (m : Mu) (R : DK) : dM g to t r m R = (to r m fun x m1 => isLst m1 x ∧ t r m1 fun xs m2 => g x xs m2 R) := id rfl
theorem u_iNew (t : DTA) (r : DSt) (m : Mu) (R : DIt → Mu → Prop) : iNew t r m R = (t r m fun ds m1 => R ⟨ds, fun _ => True⟩ m1) := id rfl
theorem u_nLc (wi : DTI) (g : DTG) (tt : DTT) (te : DTE) (vs : List Nat) (r : DSt) (m : Mu) (R : List D → Mu → Prop) : nLc wi g tt te vs r m R = (wi r m fun it m1 => lcL it.guard g tt te (dwipe r vs) it.items [] m1 R) := id rfl
theorem u_dCut (te : DTE) (tl th : DTO) (r : DSt) (m : Mu) (R : DK) : dCut te tl th r m R = (te r m fun x m1 => tl r m1 fun l m2 => th r m2 fun u m3 => gCut l u x m3 R) := id rfl
theorem u_nCutN (t : DTA) (tl th : DTO) (r : DSt) (m : Mu) (R : List D → Mu → Prop) : nCutN t tl th r m R = (t r m fun ds m1 => tl r m1 fun l m2 => th r m2 fun u m3 => R (cutD ds l u) m3) := id rfl
theorem u_nCatNN (t u : DTA) (r : DSt) (m : Mu) (R : List D → Mu → Prop) : nCatNN t u r m R = (t r m fun xs m1 => u r m1 fun ys m2 => xs.length + ys.length ≤ sizeLine ∧ R (xs ++ ys) m2) := id rfl
theorem u_d2N (g : D → List D → Mu → DK → Prop) (ta : DTE) (t : DTA) (r : DSt) (m : Mu) (R : DK) : d2N g ta t r m R = (ta r m fun x m1 => t r m1 fun ys m2 => g x ys m2 R) := id rfl
theorem u_dNN (g : List D → List D → Mu → DK → Prop) (t u : DTA) (r : DSt) (m : Mu) (R : DK) : dNN g t u r m R = (t r m fun xs m1 => u r m1 fun ys m2 => g xs ys m2 R) := id rfl
theorem u_tYes'  (z0 : DSt) (m : Mu) (R : Bool → Mu → Prop) : tYes' z0 m R = (R true m) := id rfl
theorem u_dStep (te : DTE) (tt : DTO) (r : DSt) (m : Mu) (R : DK) : dStep te tt r m R = (te r m fun x m1 => tt r m1 fun c m2 => gStep c x m2 R) := id rfl
theorem u_nSgn (t : DTA) (tt : DTO) (r : DSt) (m : Mu) (R : List D → Mu → Prop) : nSgn t tt r m R = (t r m fun xs m1 => tt r m1 fun c m2 => (c = some 1 ∧ R xs m2) ∨ (c = some (-1) ∧ R xs.reverse m2)) := id rfl
end DL

namespace DL
open PySem PySem.Spec PyProof.Rows L2
/-! ### common to all laws -/
/-- the law's start: the script is a list that is only read -/
theorem law_start {K : PySem.W.Frag} {H : Hp} {a : Addr} {ns : List Int} {sp : DSp} (hl : ns.length ≤ 63) (hb : ∀ z ∈ ns, Builtin.Int.intBits z ≤ 1048576) (hO : Only H) (hS : SqL K H a (ns.map V.int))
    (h : sp [.rl (ns.map D.int)] (fun _ => none) (fun d _ => d = .bl true) X0) : lSp K sp [.ref a] H (fun v _ => v = .bl true) fun _ _ _ => False := by
  refine ⟨_, _, _, _, Reps.one ?_, fun a o e => (by cases e), h, fun d m' v H' e _ _ r => ?_, fun _ _ _ _ _ _ _ e => e.elim⟩
  · show Rep K H (.rl (ns.map D.int)) (.ref a)
    unfold Rep
    exact ⟨a, _, rfl, RoL.of_only hO hS, Reps.of_ints ns⟩
  · rw [e] at r
    exact Rep.bl_.mp r
/-! ### seeds: a list of four ints; a draw gives an int below its bound -/
def isSeed : Option O → Prop
  | some (.lst [.int _, .int _, .int _, .int _]) => True
  | _ => False
def seedO (n f k c : Int) : O := .lst [.int n, .int f, .int k, .int c]
theorem isSeed_of {o : Option O} (h : isSeed o) : ∃ n f k c, o = some (seedO n f k c) := by
  unfold isSeed at h
  split at h
  · exact ⟨_, _, _, _, rfl⟩
  · exact h.elim
/-- a draw: some int below most; the seed turns -/
def spDraw : DSp := fun ds m R _ => match ds with
  | [.ref a, .int most] => isSeed (m a) ∧ 0 < most ∧ most < 2 ^ 64 ∧ ∀ (v : Int) (o : O), isSeed (some o) → 0 ≤ v → v < most → R (.int v) (mput m a o)
  | _ => False
theorem spDraw_len : ∀ ds m R E, spDraw ds m R E → ds.length = 2 := by
  intro ds m R E h
  unfold spDraw at h
  split at h
  · rfl
  · exact h.elim
theorem small_div {i j : Int} (h0 : 0 < j) (h1 : j < 2 ^ 64) : CDivW i j := wide_div (b := 64) h0 (by omega) (by decide) (by decide)
theorem mul_l {i j : Int} (h0 : -(2 ^ 64) < i) (h1 : i < 2 ^ 64) : CMulA i j := .inl (.inl ⟨h0, h1⟩)
theorem mul_r {i j : Int} (h0 : -(2 ^ 64) < j) (h1 : j < 2 ^ 64) : CMulA i j := .inl (.inr ⟨h0, h1⟩)
theorem cutD_take {α : Type} {f : α → D} {xs : List α} {k : Int} (h : 0 ≤ k) : cutD (xs.map f) none (some k) = (xs.take k.toNat).map f := by
  unfold cutD
  have e : HT.sIx (xs.map f).length (xs.map f).length (some k) = min k.toNat xs.length := by
    have := HT.sIx_nat (xs.map f).length (xs.map f).length k.toNat
    rw [Int.toNat_of_nonneg h] at this
    rw [this, List.length_map]
  rw [e, HT.sIx_none]
  simp only [List.drop_zero, Nat.sub_zero]
  rw [← List.map_take]
  congr 1
  rw [List.take_eq_take_iff]
  omega
/-! ### loops over lists that are given by a map -/
theorem lcL_nil {G : Mu → Prop} {g : DTG} {tt : DTT} {te : DTE} {r0 : DSt} {acc : List D} {m : Mu} {R : List D → Mu → Prop} : lcL G g tt te r0 [] acc m R = (G m ∧ R acc m) := propext Iff.rfl
theorem lcL_cons {G : Mu → Prop} {g : DTG} {tt : DTT} {te : DTE} {r0 : DSt} {d : D} {ds acc : List D} {m : Mu} {R : List D → Mu → Prop} : lcL G g tt te r0 (d :: ds) acc m R =
    (G m ∧ g d r0 m fun r2 m2 => tt r2 m2 fun b m3 => if b = true then te r2 m3 fun y m4 => acc.length < sizeLine ∧ lcL G g tt te r0 ds (acc ++ [y]) m4 R else lcL G g tt te r0 ds acc m3 R) := propext Iff.rfl
theorem forL_nil {G : Mu → Prop} {g : DTG} {tb : DTS} {E : DEnds} {r : DSt} {m : Mu} : forL G g tb [] E r m = (G m ∧ E.nx r m) := propext Iff.rfl
theorem forL_cons {G : Mu → Prop} {g : DTG} {tb : DTS} {d : D} {ds : List D} {E : DEnds} {r : DSt} {m : Mu} : forL G g tb (d :: ds) E r m =
    (G m ∧ g d r m fun r' m' => tb { E with nx := forL G g tb ds E, ct := forL G g tb ds E, bk := E.nx } r' m') := propext Iff.rfl
/-- a comprehension that changes nothing -/
theorem lc_map {α : Type} {G : Mu → Prop} {g : DTG} {tt : DTT} {te : DTE} {r0 : DSt} {m : Mu} {R : List D → Mu → Prop} (e : α → D) (p : α → Bool) (f : α → D) (hG : G m) :
    ∀ (xs : List α) (acc : List D), acc.length + xs.length ≤ sizeLine →
      (∀ x ∈ xs, ∀ (acc : List D) (W : List D → Mu → Prop), acc.length < sizeLine → (if p x = true then W (acc ++ [f x]) m else W acc m) → g (e x) r0 m fun r2 m2 => tt r2 m2 fun b m3 => if b = true then te r2 m3 fun y m4 => acc.length < sizeLine ∧ W (acc ++ [y]) m4 else W acc m3) →
      R (acc ++ (xs.filter p).map f) m → lcL G g tt te r0 (xs.map e) acc m R
  | [], acc, _, _, h => by
    rw [List.map_nil, lcL_nil]
    exact ⟨hG, by simpa using h⟩
  | x :: xs, acc, hl, ht, h => by
    rw [List.map_cons, lcL_cons]
    simp only [List.length_cons] at hl
    refine ⟨hG, ht x List.mem_cons_self acc (fun acc m => lcL G g tt te r0 (xs.map e) acc m R) (by omega) ?_⟩
    by_cases hp : p x = true
    · rw [if_pos hp]
      refine lc_map e p f hG xs _ (by simp only [List.length_append, List.length_cons, List.length_nil]; omega) (fun y hy => ht y (List.mem_cons_of_mem _ hy)) ?_
      rw [List.filter_cons_of_pos hp] at h
      simpa using h
    · rw [if_neg hp]
      refine lc_map e p f hG xs _ (by omega) (fun y hy => ht y (List.mem_cons_of_mem _ hy)) ?_
      rw [List.filter_cons_of_neg hp] at h
      exact h
/-- a loop by what holds ahead of the items that are left -/
theorem for_ind {α : Type} {G : Mu → Prop} {g : DTG} {tb : DTS} {E : DEnds} (e : α → D) (I : List α → DSt → Mu → Prop) (h0 : ∀ r m, I [] r m → G m ∧ E.nx r m)
    (h1 : ∀ x xs (nx : DSt → Mu → Prop), (∀ r m, I xs r m → nx r m) → ∀ r m, I (x :: xs) r m → G m ∧ g (e x) r m fun r' m' => tb { E with nx := nx, ct := nx, bk := E.nx } r' m') :
    ∀ xs r m, I xs r m → forL G g tb (xs.map e) E r m
  | [], r, m, h => by rw [List.map_nil, forL_nil]; exact h0 r m h
  | x :: xs, r, m, h => by
    rw [List.map_cons, forL_cons]
    exact h1 x xs _ (fun r m h => for_ind e I h0 h1 xs r m h) r m h
theorem filter_yes {α : Type} : ∀ l : List α, l.filter (fun _ => true) = l
  | [] => rfl
  | x :: l => by rw [List.filter_cons_of_pos rfl, filter_yes l]
theorem ne_of {m : Mu} {a b : Addr} {o : O} (ha : m a = some o) (hb : m b = none) : a ≠ b := by
  intro e
  rw [e, hb] at ha
  cases ha
/-- a loop over a range, by how many turns are done -/
theorem for_rng {G : Mu → Prop} {g : DTG} {tb : DTS} {E : DEnds} (i : Int) (n : Nat) (I : Nat → DSt → Mu → Prop) (h0 : ∀ r m, I n r m → G m ∧ E.nx r m)
    (h1 : ∀ j, j < n → ∀ (nx : DSt → Mu → Prop), (∀ r m, I (j + 1) r m → nx r m) → ∀ r m, I j r m → G m ∧ g (.int (i + j)) r m fun r' m' => tb { E with nx := nx, ct := nx, bk := E.nx } r' m')
    (r : DSt) (m : Mu) (h : I 0 r m) : forL G g tb (rngItems i n) E r m := by
  have e : rngItems i n = (List.range n).map fun (j : Nat) => D.int (i + j) := by
    unfold rngItems
    rfl
  rw [e]
  refine for_ind (fun (j : Nat) => D.int (i + j)) (fun xs r m => ∃ j, j ≤ n ∧ xs = (List.range n).drop j ∧ I j r m) ?_ ?_ _ r m ⟨0, by omega, rfl, h⟩
  · rintro r m ⟨j, hj, e, hI⟩
    have : j = n := by
      have := congrArg List.length e
      simp at this
      omega
    subst this
    exact h0 r m hI
  · rintro x xs nx hnx r m ⟨j, hj, e, hI⟩
    have hl := congrArg List.length e
    simp at hl
    have hlt : j < n := by omega
    rw [List.drop_eq_getElem_cons (by simpa using hlt)] at e
    injection e with e1 e2
    simp at e1
    subst e1
    exact h1 x hlt nx (fun r m hI => hnx r m ⟨x + 1, by omega, e2, hI⟩) r m hI

/-! ### fractions: rational numbers -/
def fr (q : Rat) : D := .tup [.int q.num, .int (q.den : Int)]
/-- few enough bits -/
def Bd (n : Nat) (q : Rat) : Prop := q.num.natAbs < 2 ^ n ∧ q.den < 2 ^ n
theorem mulW {a b : Nat} {i j : Int} (hi : i.natAbs < 2 ^ a) (hj : j.natAbs < 2 ^ b) (h : a + b < 1000000) : CMulA i j := by
  refine .inr ?_
  show i.natAbs.log2 + j.natAbs.log2 < 1000000
  have k : ∀ (n c : Nat), n < 2 ^ c → n.log2 ≤ c := by
    intro n c h
    rcases Nat.eq_zero_or_pos n with e | e
    · subst e; simp
    · exact Nat.le_of_lt ((Nat.log2_lt (by omega)).mpr h)
  have := k _ _ hi
  have := k _ _ hj
  omega
theorem divW {a : Nat} {i j : Int} (h0 : 0 < j) (hj : j.natAbs < 2 ^ a) (h : a ≤ 8999) : CDivW i j := by
  refine ⟨h0, ?_⟩
  have := (Nat.log2_lt (n := j.natAbs) (k := a) (by omega)).mpr hj
  omega
theorem nn_lt {a b c : Nat} {i j : Int} (hi : i.natAbs < 2 ^ a) (hj : j.natAbs < 2 ^ b) (h : a + b ≤ c) : (i * j).natAbs < 2 ^ c := by
  rw [Int.natAbs_mul]
  refine Nat.lt_of_lt_of_le (Nat.mul_lt_mul'' hi hj) ?_
  rw [← Nat.pow_add]
  exact Nat.pow_le_pow_right (by decide) h
theorem na_lt {a b c : Nat} {i j : Int} (hi : i.natAbs < 2 ^ a) (hj : j.natAbs < 2 ^ b) (h : a < c) (h' : b < c) : (i + j).natAbs < 2 ^ c := by
  have h1 : 2 ^ a ≤ 2 ^ (c - 1) := Nat.pow_le_pow_right (by decide) (by omega)
  have h2 : 2 ^ b ≤ 2 ^ (c - 1) := Nat.pow_le_pow_right (by decide) (by omega)
  have h3 : 2 ^ c = 2 ^ (c - 1) * 2 := by rw [← Nat.pow_succ]; congr 1; omega
  omega
theorem div_fr (a b : Int) (hb : 0 < b) : ((a : Rat) / (b : Rat)).num = a / (Int.gcd a b : Int) ∧ ((((a : Rat) / (b : Rat)).den : Nat) : Int) = b / (Int.gcd a b : Int) := by
  obtain ⟨n, rfl⟩ := Int.eq_ofNat_of_zero_le (Int.le_of_lt hb)
  have h0 : n ≠ 0 := by omega
  have e : (a : Rat) / ((n : Int) : Rat) = mkRat a n := (Rat.mkRat_eq_div a n).symm
  rw [e, Rat.mkRat_def, dif_neg h0, Rat.normalize_eq]
  refine ⟨rfl, ?_⟩
  show ((n / a.natAbs.gcd n : Nat) : Int) = _
  rw [Int.natCast_ediv]
  rfl
theorem fr_div {a b : Int} (hb : 0 < b) : fr ((a : Rat) / (b : Rat)) = .tup [.int (a / (Int.gcd a b : Int)), .int (b / (Int.gcd a b : Int))] := by
  unfold fr
  rw [(div_fr a b hb).1, (div_fr a b hb).2]
theorem rat_eq (q : Rat) : q = (q.num : Rat) / ((q.den : Int) : Rat) := by
  have := Rat.mkRat_eq_div q.num q.den
  rw [Rat.mkRat_self] at this
  exact this
theorem den_pos (q : Rat) : 0 < (q.den : Int) := by
  have := q.den_pos
  omega
theorem den_ne (q : Rat) : ((q.den : Int) : Rat) ≠ 0 := by
  have := q.den_pos
  intro h
  have : (q.den : Int) = 0 := by exact_mod_cast h
  omega
theorem Bd.mono {n k : Nat} {q : Rat} (h : Bd n q) (hk : n ≤ k) : Bd k q :=
  ⟨Nat.lt_of_lt_of_le h.1 (Nat.pow_le_pow_right (by decide) hk), Nat.lt_of_lt_of_le h.2 (Nat.pow_le_pow_right (by decide) hk)⟩
theorem Bd.d {n : Nat} {q : Rat} (h : Bd n q) : (q.den : Int).natAbs < 2 ^ n := by
  have := h.2
  simpa using this
theorem Bd.of_div {a b : Int} {n : Nat} (hb : b ≠ 0) (ha : a.natAbs < 2 ^ n) (hb' : b.natAbs < 2 ^ n) : Bd n ((a : Rat) / (b : Rat)) := by
  have key : ∀ (a b : Int), 0 < b → a.natAbs < 2 ^ n → b.natAbs < 2 ^ n → Bd n ((a : Rat) / (b : Rat)) := by
    intro a b hb ha hb'
    obtain ⟨e1, e2⟩ := div_fr a b hb
    refine ⟨?_, ?_⟩
    · rw [e1]
      refine Nat.lt_of_le_of_lt ?_ ha
      exact Int.natAbs_ediv_le_natAbs _ _
    · have : (((a : Rat) / (b : Rat)).den : Int).natAbs ≤ b.natAbs := by
        rw [e2]
        exact Int.natAbs_ediv_le_natAbs _ _
      have : ((a : Rat) / (b : Rat)).den ≤ b.natAbs := by simpa using this
      omega
  rcases Int.lt_or_gt_of_ne hb with h | h
  · have := key (-a) (-b) (by omega) (by rw [Int.natAbs_neg]; exact ha) (by rw [Int.natAbs_neg]; exact hb')
    have e : ((-a : Int) : Rat) / ((-b : Int) : Rat) = (a : Rat) / (b : Rat) := by
      have hb0 : (b : Rat) ≠ 0 := by exact_mod_cast hb
      rw [Rat.intCast_neg, Rat.intCast_neg]
      grind
    rw [e] at this
    exact this
  · exact key a b h ha hb'
theorem add_eq (p q : Rat) : p + q = ((p.num * q.den + q.num * p.den : Int) : Rat) / ((p.den * q.den : Int) : Rat) := by
  have hp := rat_eq p
  have hq := rat_eq q
  have dp := den_ne p
  have dq := den_ne q
  rw [Rat.intCast_add, Rat.intCast_mul, Rat.intCast_mul, Rat.intCast_mul]
  grind
theorem sub_eq (p q : Rat) : p - q = ((p.num * q.den - q.num * p.den : Int) : Rat) / ((p.den * q.den : Int) : Rat) := by
  have hp := rat_eq p
  have hq := rat_eq q
  have dp := den_ne p
  have dq := den_ne q
  rw [Rat.intCast_sub, Rat.intCast_mul, Rat.intCast_mul, Rat.intCast_mul]
  grind
theorem mul_eq (p q : Rat) : p * q = ((p.num * q.num : Int) : Rat) / ((p.den * q.den : Int) : Rat) := by
  have hp := rat_eq p
  have hq := rat_eq q
  have dp := den_ne p
  have dq := den_ne q
  rw [Rat.intCast_mul, Rat.intCast_mul]
  grind
theorem num_ne {q : Rat} (h : q ≠ 0) : q.num ≠ 0 := by
  intro e
  exact h (by rw [rat_eq q, e]; simp [Rat.div_def])
theorem num_ne' {q : Rat} (h : q ≠ 0) : (q.num : Rat) ≠ 0 := by
  have := num_ne h
  exact_mod_cast this
theorem div_eq (p q : Rat) (h : q ≠ 0) : p / q = ((p.num * q.den : Int) : Rat) / ((p.den * q.num : Int) : Rat) := by
  have hp := rat_eq p
  have hq := rat_eq q
  have dp := den_ne p
  have dq := den_ne q
  have nq := num_ne' h
  rw [Rat.intCast_mul, Rat.intCast_mul]
  grind
theorem den_mul_pos (p q : Rat) : 0 < (p.den * q.den : Int) := Int.mul_pos (den_pos p) (den_pos q)
theorem Bd.add {n k c : Nat} {p q : Rat} (hp : Bd n p) (hq : Bd k q) (h : n + k < c := by omega) : Bd c (p + q) := by
  rw [add_eq]
  have := den_mul_pos p q
  exact Bd.of_div (by omega) (na_lt (nn_lt hp.1 hq.d (Nat.le_refl _)) (nn_lt hq.1 hp.d (Nat.le_refl _)) h (by omega)) (nn_lt hp.d hq.d (by omega))
theorem Bd.neg {n : Nat} {p : Rat} (hp : Bd n p) : Bd n (-p) := by
  unfold Bd
  rw [Rat.neg_num, Rat.neg_den, Int.natAbs_neg]
  exact hp
theorem Bd.sub {n k c : Nat} {p q : Rat} (hp : Bd n p) (hq : Bd k q) (h : n + k < c := by omega) : Bd c (p - q) := by
  rw [Rat.sub_eq_add_neg]
  exact hp.add hq.neg h
theorem Bd.mul {n k c : Nat} {p q : Rat} (hp : Bd n p) (hq : Bd k q) (h : n + k ≤ c := by omega) : Bd c (p * q) := by
  rw [mul_eq]
  have := den_mul_pos p q
  exact Bd.of_div (by omega) (nn_lt hp.1 hq.1 h) (nn_lt hp.d hq.d h)
theorem Bd.div {n k c : Nat} {p q : Rat} (hp : Bd n p) (hq : Bd k q) (h0 : q ≠ 0) (h : n + k ≤ c := by omega) : Bd c (p / q) := by
  rw [div_eq p q h0]
  refine Bd.of_div ?_ (nn_lt hp.1 hq.d h) (nn_lt hp.d hq.1 h)
  intro e
  rcases Int.mul_eq_zero.mp e with e | e
  · have := den_pos p
    omega
  · exact num_ne h0 e
/-! ### the greatest common divisor by the loop -/
theorem gcd_while {tt : DTT} {tb : DTS} (st : Int → Int → DSt) (m : Mu) (E : DEnds) (ht : ∀ x y R, R (decide (0 < y)) m → tt (st x y) m R) (hb : ∀ x y (F : DEnds), 0 < y → F.nx (st y (x % y)) m → tb F (st x y) m) :
    ∀ (n : Nat) (x y : Int), 0 ≤ x → 0 ≤ y → y.toNat ≤ n → E.nx (st (Int.gcd x y) 0) m → whileN tt tb (n + 1) E (st x y) m
  | n, x, y, hx, hy, hn, hE => by
    unfold whileN
    refine ht _ _ _ ?_
    by_cases h : 0 < y
    · rw [if_pos (by simpa using h)]
      cases n with
      | zero => omega
      | succ n =>
        refine hb x y _ h (gcd_while st m E ht hb n y (x % y) hy (Int.emod_nonneg _ (by omega)) ?_ ?_)
        · have := Int.emod_lt_of_pos x h
          omega
        · have e : Int.gcd y (x % y) = Int.gcd x y := by
            rw [Int.emod_def, Int.gcd_sub_mul_left_right, Int.gcd_comm]
          rw [e]
          exact hE
    · rw [if_neg (by simpa using h)]
      have e : y = 0 := by omega
      subst e
      have e2 : ((Int.gcd x 0 : Nat) : Int) = x := by
        rw [Int.gcd_zero]
        omega
      rw [e2] at hE
      exact hE
/-! ### promises of fraction defs -/
def spQuotP : DSp := fun ds m R _ => ∃ a b : Int, ds = [.int a, .int b] ∧ 0 < b ∧ b.natAbs < 2 ^ 8999 ∧ R (fr ((a : Rat) / (b : Rat))) m
def spQuot : DSp := fun ds m R _ => ∃ a b : Int, ds = [.int a, .int b] ∧ b ≠ 0 ∧ b.natAbs < 2 ^ 8999 ∧ R (fr ((a : Rat) / (b : Rat))) m
def spR2 (f : Rat → Rat → Rat) : DSp := fun ds m R _ => ∃ p q : Rat, ds = [fr p, fr q] ∧ Bd 4000 p ∧ Bd 4000 q ∧ R (fr (f p q)) m
def spRD : DSp := fun ds m R _ => ∃ p q : Rat, ds = [fr p, fr q] ∧ Bd 4000 p ∧ Bd 4000 q ∧ q ≠ 0 ∧ R (fr (p / q)) m
theorem len_spQuot : ∀ ds m R E, spQuot ds m R E → ds.length = 2 := by
  rintro ds m R E ⟨a, b, rfl, _⟩; rfl
theorem len_spR2 {f : Rat → Rat → Rat} : ∀ ds m R E, spR2 f ds m R E → ds.length = 2 := by
  rintro ds m R E ⟨a, b, rfl, _⟩; rfl
theorem len_spRD : ∀ ds m R E, spRD ds m R E → ds.length = 2 := by
  rintro ds m R E ⟨a, b, rfl, _⟩; rfl
theorem abs_eq (a : Int) : (if a < 0 then -a else a) = (a.natAbs : Int) := by
  split <;> omega
theorem gcd_abs (a b : Int) : Int.gcd (a.natAbs : Int) b = Int.gcd a b := by
  unfold Int.gcd
  rw [Int.natAbs_natCast]
theorem gcd_pos {a b : Int} (hb : 0 < b) : 0 < (Int.gcd a b : Int) := by
  have := Int.gcd_pos_of_ne_zero_right a (b := b) (by omega)
  omega
theorem gcd_lt {a b : Int} {n : Nat} (hb : 0 < b) (h : b.natAbs < 2 ^ n) : (Int.gcd a b : Int).natAbs < 2 ^ n := by
  have h1 : Int.gcd a b ≤ b.natAbs := Nat.le_of_dvd (by omega) (Nat.gcd_dvd_right _ _)
  have h2 : (Int.gcd a b : Int).natAbs = Int.gcd a b := Int.natAbs_natCast _
  omega

/-! ### data of a native type: == tells whether they are the same -/
structure Enc {α : Type} [DecidableEq α] (n : Nat) (f : α → D) (g : α → PyData) : Prop where
  py : ∀ (m : Mu) (k : Nat) (x : α), n ≤ k → DL.py m k (f x) = some (g x)
  eqv : ∀ x y : α, PyData.eqv (g x) (g y) = decide (x = y)
theorem Enc.mono {α : Type} [DecidableEq α] {n k : Nat} {f : α → D} {g : α → PyData} (h : Enc n f g) (hk : n ≤ k) : Enc k f g := ⟨fun m j x hj => h.py m j x (by omega), h.eqv⟩
theorem enc_int : Enc 1 D.int PyData.int := ⟨fun m k x hk => by
    cases k with
    | zero => omega
    | succ k => rfl, fun x y => by
    unfold PyData.eqv
    rfl⟩
theorem pyAll_map {α : Type} {p : D → Option PyData} {f : α → D} {g : α → PyData} (h : ∀ x, p (f x) = some (g x)) : ∀ xs : List α, pyAll p (xs.map f) = some (xs.map g)
  | [] => rfl
  | x :: xs => by
    rw [List.map_cons]
    unfold pyAll
    rw [pyAll_map h xs, h x]
    rfl
theorem eqvAll_map {α : Type} [DecidableEq α] {g : α → PyData} (h : ∀ x y : α, PyData.eqv (g x) (g y) = decide (x = y)) : ∀ xs ys : List α, PyData.eqvAll (xs.map g) (ys.map g) = decide (xs = ys)
  | [], [] => by simp [PyData.eqvAll]
  | [], y :: ys => by simp [PyData.eqvAll]
  | x :: xs, [] => by simp [PyData.eqvAll]
  | x :: xs, y :: ys => by
    rw [List.map_cons, List.map_cons, PyData.eqvAll, h, eqvAll_map h xs ys]
    simp
theorem py_tup {m : Mu} {k : Nat} {ds : List D} {ps : List PyData} (h : pyAll (py m k) ds = some ps) : py m (k + 1) (.tup ds) = some (.tuple ps) := by
  unfold py
  simp only [h]
theorem enc_list {α : Type} [DecidableEq α] {n : Nat} {f : α → D} {g : α → PyData} (h : Enc n f g) : Enc (n + 1) (fun xs : List α => D.tup (xs.map f)) (fun xs => PyData.tuple (xs.map g)) :=
  ⟨fun m k xs hk => by
    cases k with
    | zero => omega
    | succ k => exact py_tup (pyAll_map (fun x => h.py m k x (by omega)) xs), fun xs ys => by
    rw [PyData.eqv]
    exact eqvAll_map h.eqv xs ys⟩
theorem enc_pair {α β : Type} [DecidableEq α] [DecidableEq β] {n : Nat} {f : α → D} {g : α → PyData} {f' : β → D} {g' : β → PyData} (h : Enc n f g) (h' : Enc n f' g') :
    Enc (n + 1) (fun x : α × β => D.tup [f x.1, f' x.2]) (fun x => PyData.tuple [g x.1, g' x.2]) :=
  ⟨fun m k x hk => by
    cases k with
    | zero => omega
    | succ k =>
      refine py_tup ?_
      have e1 := h.py m k x.1 (by omega)
      have e2 := h'.py m k x.2 (by omega)
      simp only [pyAll, e1, e2], fun x y => by
    rw [PyData.eqv, PyData.eqvAll, PyData.eqvAll, PyData.eqvAll, h.eqv, h'.eqv]
    rcases x with ⟨a, b⟩
    rcases y with ⟨c, d⟩
    simp⟩
theorem Enc.gEq {α : Type} [DecidableEq α] {n : Nat} {f : α → D} {g : α → PyData} (h : Enc n f g) {x y : α} {m : Mu} {R : DK} (hR : R (.bl (decide (x = y))) m) (hn : n ≤ deep := by decide) : DL.gEq (f x) (f y) m R :=
  gEq_of (h.py m deep x hn) (h.py m deep y hn) (by rw [h.eqv]; exact hR)
theorem Enc.gNe {α : Type} [DecidableEq α] {n : Nat} {f : α → D} {g : α → PyData} (h : Enc n f g) {x y : α} {m : Mu} {R : DK} (hR : R (.bl (!decide (x = y))) m) (hn : n ≤ deep := by decide) : DL.gNe (f x) (f y) m R :=
  gNe_of (h.py m deep x hn) (h.py m deep y hn) (by rw [h.eqv]; exact hR)

/-! ### maps: knots of fractions -/
def frP (q : Rat) : PyData := .tuple [.int q.num, .int (q.den : Int)]
theorem enc_fr : Enc 2 fr frP :=
  ⟨fun m k x hk => by
    match k, hk with
    | k + 2, _ => rfl, fun x y => by
    simp only [frP, PyData.eqv, PyData.eqvAll, Bool.and_true]
    rw [Bool.eq_iff_iff, Bool.and_eq_true, beq_iff_eq, beq_iff_eq, decide_eq_true_eq]
    constructor
    · rintro ⟨h1, h2⟩
      exact Rat.ext h1 (by omega)
    · rintro rfl
      exact ⟨rfl, rfl⟩⟩
abbrev Kn := Rat × Rat
def knD (k : Kn) : D := .tup [fr k.1, fr k.2]
def mapD (ks : List Kn) : D := .tup (ks.map knD)
def knP (k : Kn) : PyData := .tuple [frP k.1, frP k.2]
theorem enc_kn : Enc 3 knD knP := enc_pair enc_fr enc_fr
theorem enc_map : Enc 4 mapD (fun ks => PyData.tuple (ks.map knP)) := enc_list enc_kn
def Inc (ks : List Kn) : Prop := ks.Pairwise fun a b => a.1 < b.1
def BdK (n : Nat) (ks : List Kn) : Prop := ∀ k ∈ ks, Bd n k.1 ∧ Bd n k.2
def slp (a b : Kn) : Rat := (b.2 - a.2) / (b.1 - a.1)
/-- knots at which it bends, behind one that was kept -/
def lk : Kn → List Kn → List Kn
  | _, [] => []
  | _, [z] => [z]
  | a, k :: n :: l => if slp a k = slp k n then lk a (n :: l) else k :: lk k (n :: l)
def leastK : List Kn → List Kn
  | [] => []
  | a :: l => a :: lk a l
def pairs {α : Type} : List α → List (α × α)
  | a :: b :: l => (a, b) :: pairs (b :: l)
  | _ => []
/-- the value at a point -/
def valK : List Kn → Rat → Rat
  | [], _ => 0
  | [k], _ => k.2
  | a :: b :: l, p => if b.1 < p then valK (b :: l) p else (a.2 * (b.1 - p) + b.2 * (p - a.1)) / (b.1 - a.1)
theorem Inc.tail {a : Kn} {l : List Kn} (h : Inc (a :: l)) : Inc l := (List.pairwise_cons.mp h).2
theorem Inc.lt {a b : Kn} {l : List Kn} (h : Inc (a :: b :: l)) : a.1 < b.1 := (List.pairwise_cons.mp h).1 b List.mem_cons_self
theorem Inc.skip {a b : Kn} {l : List Kn} (h : Inc (a :: b :: l)) : Inc (a :: l) :=
  List.pairwise_cons.mpr ⟨fun x hx => (List.pairwise_cons.mp h).1 x (List.mem_cons_of_mem _ hx), h.tail.tail⟩
theorem BdK.tail {n : Nat} {a : Kn} {l : List Kn} (h : BdK n (a :: l)) : BdK n l := fun k hk => h k (List.mem_cons_of_mem _ hk)
theorem BdK.head {n : Nat} {a : Kn} {l : List Kn} (h : BdK n (a :: l)) : Bd n a.1 ∧ Bd n a.2 := h a List.mem_cons_self
theorem BdK.mono {n k : Nat} {l : List Kn} (h : BdK n l) (hk : n ≤ k) : BdK k l := fun x hx => ⟨(h x hx).1.mono hk, (h x hx).2.mono hk⟩
theorem lk_sub : ∀ (l : List Kn) (a : Kn), (lk a l).Sublist l
  | [], a => by unfold lk; exact .slnil
  | [z], a => by unfold lk; exact List.Sublist.refl _
  | k :: n :: l, a => by
    unfold lk
    split
    · exact .cons _ (lk_sub (n :: l) a)
    · exact .cons_cons _ (lk_sub (n :: l) k)
theorem leastK_sub (ks : List Kn) : (leastK ks).Sublist ks := by
  cases ks with
  | nil => exact .slnil
  | cons a l => exact .cons_cons _ (lk_sub l a)
theorem Inc.least {ks : List Kn} (h : Inc ks) : Inc (leastK ks) := List.Pairwise.sublist (leastK_sub ks) h
theorem BdK.least {n : Nat} {ks : List Kn} (h : BdK n ks) : BdK n (leastK ks) := fun k hk => h k ((leastK_sub ks).subset hk)
theorem lk_ne {a : Kn} : ∀ {l : List Kn}, l ≠ [] → lk a l ≠ []
  | [], h => absurd rfl h
  | [z], _ => by unfold lk; simp
  | k :: n :: l, _ => by
    unfold lk
    split
    · exact lk_ne (by simp)
    · simp
theorem leastK_len {ks : List Kn} (h : 2 ≤ ks.length) : 2 ≤ (leastK ks).length := by
  match ks, h with
  | a :: b :: l, _ =>
    have := lk_ne (a := a) (l := b :: l) (by simp)
    unfold leastK
    have := List.length_pos_iff.mpr this
    simp only [List.length_cons]
    omega
theorem leastK_le (ks : List Kn) : (leastK ks).length ≤ ks.length := (leastK_sub ks).length_le
theorem zip_pairs {α : Type} (f : α → D) : ∀ l : List α, zipItems (l.map f) ((l.drop 1).map f) = (pairs l).map fun p => .tup [f p.1, f p.2]
  | [] => rfl
  | [a] => rfl
  | a :: b :: l => by
    have := zip_pairs f (b :: l)
    simp only [pairs, List.map_cons, List.drop_succ_cons, List.drop_zero, zipItems] at this ⊢
    rw [← this]
theorem cutD_drop {α : Type} {f : α → D} {xs : List α} {k : Int} (h : 0 ≤ k) (hk : k.toNat ≤ xs.length) : cutD (xs.map f) (some k) none = (xs.drop k.toNat).map f := by
  unfold cutD
  have e : HT.sIx (xs.map f).length 0 (some k) = min k.toNat xs.length := by
    have := HT.sIx_nat (xs.map f).length 0 k.toNat
    rw [Int.toNat_of_nonneg h] at this
    rw [this, List.length_map]
  rw [e, HT.sIx_none]
  have e2 : min k.toNat xs.length = k.toNat := by omega
  rw [e2, ← List.map_drop]
  rw [List.take_of_length_le (by simp)]
theorem Sub.new {m : Mu} {a : Addr} {o : O} (h : m a = none) : Sub m (mput m a o) := fun b u hb => by
  rw [mput_ne (ne_of hb h)]
  exact hb
theorem fin_new {R : DK} {d : D} {m : Mu} {a : Addr} {o : O} (h : m a = none) (hR : R d m) : fin R d (mput m a o) := ⟨m, Sub.new h, hR⟩
theorem at_last {l : List D} {x : D} {k : D → Prop} (h : l.getLast? = some x) (q : k x) : atK l (-1) k := by
  obtain ⟨ys, rfl⟩ := List.getLast?_eq_some_iff.mp h
  rw [atK_last]
  exact q
theorem drop_two_cons {α : Type} {l : List α} {j : Nat} (h : j + 1 < l.length) : ∃ k n r, l.drop j = k :: n :: r ∧ l[j]? = some k ∧ l[j + 1]? = some n ∧ l.drop (j + 1) = n :: r := by
  have h1 : j < l.length := by omega
  refine ⟨l[j], l[j + 1], l.drop (j + 2), ?_, by simp, by simp, ?_⟩
  · rw [List.drop_eq_getElem_cons h1, List.drop_eq_getElem_cons h]
  · rw [List.drop_eq_getElem_cons h]
theorem drop_one_cons {α : Type} {l : List α} (h : l ≠ []) : ∃ z, l.drop (l.length - 1) = [z] ∧ l.getLast? = some z := by
  refine ⟨l.getLast h, ?_, List.getLast?_eq_some_getLast h⟩
  have hp := List.length_pos_iff.mpr h
  rw [List.drop_eq_getElem_cons (by omega), List.getLast_eq_getElem]
  congr 1
  exact List.drop_eq_nil_of_le (by omega)
theorem lk_cons (a k n : Kn) (l : List Kn) : lk a (k :: n :: l) = if slp a k = slp k n then lk a (n :: l) else k :: lk k (n :: l) := by rw [lk]
theorem div_lt {z w b : Int} (hb : 0 < b) (h : z < w) : (z : Rat) / (b : Rat) < (w : Rat) / (b : Rat) := by
  have hb' : (0 : Rat) < (b : Rat) := by exact_mod_cast hb
  have h' : (z : Rat) < (w : Rat) := by exact_mod_cast h
  rw [Rat.div_def, Rat.div_def]
  exact Rat.mul_lt_mul_of_pos_right h' (Rat.inv_pos.mpr hb')
theorem div_le {z w b : Int} (hb : 0 < b) (h : z ≤ w) : (z : Rat) / (b : Rat) ≤ (w : Rat) / (b : Rat) := by
  have hb' : (0 : Rat) < (b : Rat) := by exact_mod_cast hb
  have h' : (z : Rat) ≤ (w : Rat) := by exact_mod_cast h
  rw [Rat.div_def, Rat.div_def]
  exact Rat.mul_le_mul_of_nonneg_right h' (Rat.le_of_lt (Rat.inv_pos.mpr hb'))
/-- an item of a row of ints, whichever -/
theorem at_ints {ns : List Int} {i : Int} {k : D → Prop} (h0 : 0 ≤ i) (h1 : i < ns.length) (h : ∀ z ∈ ns, k (.int z)) : atK (ns.map D.int) i k := by
  have hl : i.toNat < ns.length := by omega
  refine atK_of (n := i.toNat) (x := .int ns[i.toNat]) (by omega) (by simp [hl]) (h _ (List.getElem_mem hl))
/-- a map as the laws draw them -/
structure GoodMap (ks : List Kn) : Prop where
  len : 2 ≤ ks.length
  inc : Inc ks
  bd : BdK 40 ks
  cd : ∃ be : Nat, 1 ≤ be ∧ be ≤ 9999 ∧ ∀ k ∈ ks, ∃ z w : Int, (-2000000 ≤ z ∧ z ≤ 2000000) ∧ (-2000000 ≤ w ∧ w ≤ 2000000) ∧ k.1 = (z : Rat) / ((be : Int) : Rat) ∧ k.2 = (w : Rat) / ((be : Int) : Rat)
  rng : ∃ lo hi : Rat, (ks.map (·.1)).head? = some lo ∧ (ks.map (·.1)).getLast? = some hi ∧ ∀ k ∈ ks, lo ≤ k.2 ∧ k.2 ≤ hi
/-! ### the deck of cells -/
def deckO (b : Addr) (i c k s : Int) : O := .lst [.ref b, .int i, .int c, .int k, .int s]
/-- a deck at an address, its cells at another; at most N draws behind the cells -/
def Deck (N : Nat) (m : Mu) (a b : Addr) : Prop := ∃ (cs : List Int) (i c k s : Int), m a = some (deckO b i c k s) ∧ m b = some (.lst (cs.map D.int)) ∧ 0 ≤ i ∧ i ≤ cs.length ∧ cs.length ≤ 63 ∧ 0 ≤ c ∧ 0 ≤ k ∧ k ≤ N
/-- all else stays -/
def Ext (a : Addr) (m m' : Mu) : Prop := ∀ x o, x ≠ a → m x = some o → m' x = some o
theorem Ext.trans {a : Addr} {m m' m'' : Mu} (h : Ext a m m') (h' : Ext a m' m'') : Ext a m m'' := fun x o hx e => h' x o hx (h x o hx e)
theorem Ext.put {a : Addr} {m : Mu} {o : O} : Ext a m (mput m a o) := fun x o hx e => by rw [mput_ne hx]; exact e
/-- an address that was free may be written -/
theorem Ext.free {a x : Addr} {m m' : Mu} {o : O} (h : Ext a m m') (hx : m x = none) : Ext a m (mput m' x o) := fun y u hy e => by rw [mput_ne (ne_of e hx)]; exact h y u hy e
theorem Deck.mono {N k : Nat} {m : Mu} {a b : Addr} (h : Deck N m a b) (hk : N ≤ k) : Deck k m a b := by
  obtain ⟨cs, i, c, j, s, h1, h2, h3, h4, h5, h6, h7, h8⟩ := h
  exact ⟨cs, i, c, j, s, h1, h2, h3, h4, h5, h6, h7, by omega⟩
theorem mput_none {m : Mu} {a g : Addr} {o : O} (h : mput m a o g = none) : g ≠ a ∧ m g = none := by
  by_cases e : g = a
  · subst e
    rw [mput_same] at h
    cases h
  · rw [mput_ne e] at h
    exact ⟨e, h⟩
theorem Ext.none {a x : Addr} {m m' : Mu} (h : Ext a m m') (xa : x ≠ a) (hx : m' x = .none) : m x = .none := by
  cases e : m x with
  | none => rfl
  | some u =>
    have := h x u xa e
    rw [hx] at this
    cases this

/-! ### fewest knots: twice, and with a knot more -/
theorem slp_through {a n k : Kn} (h1 : a.1 < n.1) (h2 : n.1 < k.1) (h : slp a n = slp n k) : slp a k = slp a n := by
  unfold slp at *
  have e1 : n.1 - a.1 ≠ 0 := by grind
  have e2 : k.1 - n.1 ≠ 0 := by grind
  have e3 : k.1 - a.1 ≠ 0 := by grind
  grind
theorem lk_head : ∀ (l : List Kn) (a n : Kn), Inc (a :: n :: l) → ∃ n' r, lk a (n :: l) = n' :: r ∧ slp a n' = slp a n
  | [], a, n, _ => ⟨n, [], by rw [lk], rfl⟩
  | k :: l, a, n, h => by
    rw [lk_cons]
    by_cases c : slp a n = slp n k
    · rw [if_pos c]
      obtain ⟨n', r, e, e'⟩ := lk_head l a k h.skip
      exact ⟨n', r, e, e'.trans (slp_through h.lt h.tail.lt c)⟩
    · rw [if_neg c]
      exact ⟨n, _, rfl, rfl⟩
theorem lk_lk : ∀ (l : List Kn) (a : Kn), Inc (a :: l) → lk a (lk a l) = lk a l
  | [], a, _ => by simp [lk]
  | [z], a, _ => by simp [lk]
  | k :: n :: l, a, h => by
    rw [lk_cons]
    by_cases c : slp a k = slp k n
    · rw [if_pos c]
      exact lk_lk (n :: l) a h.skip
    · rw [if_neg c]
      have ih := lk_lk (n :: l) k h.tail
      obtain ⟨n', r, e, e'⟩ := lk_head l k n h.tail
      rw [e] at ih ⊢
      rw [lk_cons, e', if_neg c, ih]
theorem least_least {ks : List Kn} (h : Inc ks) : leastK (leastK ks) = leastK ks := by
  cases ks with
  | nil => rfl
  | cons a l =>
    show a :: lk a (lk a l) = a :: lk a l
    rw [lk_lk l a h]
/-- a knot amid two, on the straight between them -/
def Amid (f c s : Kn) : Prop := f.1 < c.1 ∧ c.1 < s.1 ∧ c.2 = (f.2 * (s.1 - c.1) + s.2 * (c.1 - f.1)) / (s.1 - f.1)
theorem Amid.slps {f c s : Kn} (h : Amid f c s) : slp f c = slp f s ∧ slp c s = slp f s := by
  obtain ⟨h1, h2, h3⟩ := h
  have e1 : c.1 - f.1 ≠ 0 := by grind
  have e2 : s.1 - c.1 ≠ 0 := by grind
  have e3 : s.1 - f.1 ≠ 0 := by grind
  unfold slp
  constructor
  · grind
  · grind
theorem lk_amid0 {f c s : Kn} {l : List Kn} (h : Amid f c s) : lk f (c :: s :: l) = lk f (s :: l) := by
  rw [lk_cons, if_pos (h.slps.1.trans h.slps.2.symm)]
theorem lk_amid : ∀ (l1 : List Kn) (a f c s : Kn) (l2 : List Kn), Amid f c s → Inc (a :: l1 ++ f :: s :: l2) → lk a (l1 ++ f :: c :: s :: l2) = lk a (l1 ++ f :: s :: l2)
  | [], a, f, c, s, l2, h, hi => by
    show lk a (f :: c :: s :: l2) = lk a (f :: s :: l2)
    have hi : Inc (a :: f :: s :: l2) := hi
    rw [lk_cons a f c, lk_cons a f s, h.slps.1]
    by_cases e : slp a f = slp f s
    · rw [if_pos e, if_pos e, lk_cons a c s, if_pos]
      rw [slp_through hi.lt h.1 (e.trans h.slps.1.symm), h.slps.2]
      exact e
    · rw [if_neg e, if_neg e, lk_amid0 h]
  | [k], a, f, c, s, l2, h, hi => by
    show lk a (k :: f :: c :: s :: l2) = lk a (k :: f :: s :: l2)
    rw [lk_cons a k f, lk_cons a k f]
    have i1 : Inc (a :: f :: s :: l2) := Inc.skip hi
    have i2 : Inc (k :: f :: s :: l2) := Inc.tail hi
    have e1 := lk_amid [] a f c s l2 h i1
    have e2 := lk_amid [] k f c s l2 h i2
    simp only [List.nil_append] at e1 e2
    rw [e1, e2]
  | k :: n :: l, a, f, c, s, l2, h, hi => by
    show lk a (k :: n :: (l ++ f :: c :: s :: l2)) = lk a (k :: n :: (l ++ f :: s :: l2))
    rw [lk_cons a k n, lk_cons a k n]
    have i1 : Inc (a :: (n :: l) ++ f :: s :: l2) := Inc.skip hi
    have i2 : Inc (k :: (n :: l) ++ f :: s :: l2) := Inc.tail hi
    have e1 := lk_amid (n :: l) a f c s l2 h i1
    have e2 := lk_amid (n :: l) k f c s l2 h i2
    simp only [List.cons_append] at e1 e2
    rw [e1, e2]
theorem least_amid {l1 l2 : List Kn} {f c s : Kn} (h : Amid f c s) (hi : Inc (l1 ++ f :: s :: l2)) : leastK (l1 ++ f :: c :: s :: l2) = leastK (l1 ++ f :: s :: l2) := by
  cases l1 with
  | nil =>
    show f :: lk f (c :: s :: l2) = f :: lk f (s :: l2)
    rw [lk_amid0 h]
  | cons a l =>
    show a :: lk a (l ++ f :: c :: s :: l2) = a :: lk a (l ++ f :: s :: l2)
    rw [lk_amid l a f c s l2 h hi]
theorem inc_amid {l1 l2 : List Kn} {f c s : Kn} (h : Amid f c s) (hi : Inc (l1 ++ f :: s :: l2)) : Inc (l1 ++ f :: c :: s :: l2) := by
  unfold Inc at *
  rw [List.pairwise_append] at hi ⊢
  obtain ⟨p1, p2, p3⟩ := hi
  have p4 := List.pairwise_cons.mp p2
  have p5 := List.pairwise_cons.mp p4.2
  refine ⟨p1, ?_, ?_⟩
  · refine List.pairwise_cons.mpr ⟨?_, List.pairwise_cons.mpr ⟨?_, p4.2⟩⟩
    · intro x hx
      rcases List.mem_cons.mp hx with rfl | hx
      · exact h.1
      · exact p4.1 x hx
    · intro x hx
      rcases List.mem_cons.mp hx with rfl | hx
      · exact h.2.1
      · have := p5.1 x hx
        have := h.2.1
        grind
  · intro x hx y hy
    rcases List.mem_cons.mp hy with rfl | hy
    · exact p3 x hx _ List.mem_cons_self
    · rcases List.mem_cons.mp hy with rfl | hy
      · have := p3 x hx f List.mem_cons_self
        have := h.1
        grind
      · exact p3 x hx y (List.mem_cons_of_mem _ hy)
/-! ### maps as functions -/
def ln (a b : Kn) (p : Rat) : Rat := a.2 + slp a b * (p - a.1)
theorem slp_mul {a b : Kn} (h : a.1 < b.1) : slp a b * (b.1 - a.1) = b.2 - a.2 := by
  unfold slp
  have e1 : b.1 - a.1 ≠ 0 := by grind
  rw [Rat.div_mul_cancel e1]
theorem ln_eq {a b : Kn} {p : Rat} (h : a.1 < b.1) : (a.2 * (b.1 - p) + b.2 * (p - a.1)) / (b.1 - a.1) = ln a b p := by
  have e1 : b.1 - a.1 ≠ 0 := by grind
  have e2 := slp_mul h
  unfold ln
  have e3 : a.2 * (b.1 - p) + b.2 * (p - a.1) = (a.2 + slp a b * (p - a.1)) * (b.1 - a.1) := by grind
  rw [e3, Rat.mul_div_cancel e1]
theorem ln_l {a b : Kn} : ln a b a.1 = a.2 := by unfold ln; grind
theorem ln_r {a b : Kn} (h : a.1 < b.1) : ln a b b.1 = b.2 := by
  have := slp_mul h
  unfold ln
  grind
theorem valK_2 {a b : Kn} {l : List Kn} {p : Rat} (h : a.1 < b.1) : valK (a :: b :: l) p = if b.1 < p then valK (b :: l) p else ln a b p := by
  rw [valK, ln_eq h]
theorem Inc.le {a k : Kn} {l : List Kn} (h : Inc (a :: l)) (hk : k ∈ a :: l) : a.1 ≤ k.1 := by
  rcases List.mem_cons.mp hk with rfl | hk
  · exact Rat.le_refl
  · have := (List.pairwise_cons.mp h).1 k hk
    grind
theorem Inc.eq_head {a k : Kn} {l : List Kn} (h : Inc (a :: l)) (hk : k ∈ a :: l) (e : k.1 ≤ a.1) : k = a := by
  rcases List.mem_cons.mp hk with rfl | hk
  · rfl
  · have := (List.pairwise_cons.mp h).1 k hk
    grind
theorem pairs_cons {α : Type} {a b : α} {l : List α} : pairs (a :: b :: l) = (a, b) :: pairs (b :: l) := by rw [pairs]
theorem pairs_mem {α : Type} : ∀ {l : List α} {p : α × α}, p ∈ pairs l → p.1 ∈ l ∧ p.2 ∈ l
  | [], p, h => by simp [pairs] at h
  | [a], p, h => by simp [pairs] at h
  | a :: b :: l, p, h => by
    rw [pairs_cons] at h
    rcases List.mem_cons.mp h with rfl | h
    · exact ⟨by simp, by simp⟩
    · have := pairs_mem h
      exact ⟨List.mem_cons_of_mem _ this.1, List.mem_cons_of_mem _ this.2⟩
theorem pairs_lt : ∀ {l : List Kn} {p : Kn × Kn}, Inc l → p ∈ pairs l → p.1.1 < p.2.1
  | [], p, _, h => by simp [pairs] at h
  | [a], p, _, h => by simp [pairs] at h
  | a :: b :: l, p, hi, h => by
    rw [pairs_cons] at h
    rcases List.mem_cons.mp h with rfl | h
    · exact hi.lt
    · exact pairs_lt hi.tail h
/-- neighbours: nothing lies between -/
theorem pairs_amid : ∀ {l : List Kn} {p : Kn × Kn} {k : Kn}, Inc l → p ∈ pairs l → k ∈ l → k.1 ≤ p.1.1 ∨ p.2.1 ≤ k.1
  | [], p, k, _, h, _ => by simp [pairs] at h
  | [a], p, k, _, h, _ => by simp [pairs] at h
  | a :: b :: l, p, k, hi, h, hk => by
    rw [pairs_cons] at h
    rcases List.mem_cons.mp h with rfl | h
    · rcases List.mem_cons.mp hk with rfl | hk
      · left; exact Rat.le_refl
      · right; exact hi.tail.le hk
    · rcases List.mem_cons.mp hk with e | hk
      · left
        rw [e]
        exact hi.le (List.mem_cons_of_mem _ (pairs_mem h).1)
      · exact pairs_amid hi.tail h hk
def loK (ks : List Kn) : Rat := match ks with
  | a :: _ => a.1
  | [] => 0
def hiK : List Kn → Rat
  | [] => 0
  | [a] => a.1
  | _ :: b :: l => hiK (b :: l)
theorem loK_cons {a : Kn} {l : List Kn} : loK (a :: l) = a.1 := rfl
theorem hiK_cons {a b : Kn} {l : List Kn} : hiK (a :: b :: l) = hiK (b :: l) := by rw [hiK]
theorem le_hiK : ∀ {l : List Kn} {k : Kn}, Inc l → k ∈ l → k.1 ≤ hiK l
  | [], k, _, h => by simp at h
  | [a], k, _, h => by
    simp at h
    subst h
    rw [hiK]
    exact Rat.le_refl
  | a :: b :: l, k, hi, h => by
    rw [hiK_cons]
    rcases List.mem_cons.mp h with rfl | h
    · have h1 := le_hiK hi.tail (k := b) List.mem_cons_self
      have := hi.lt
      grind
    · exact le_hiK hi.tail h
theorem loK_le {l : List Kn} {k : Kn} (hi : Inc l) (h : k ∈ l) : loK l ≤ k.1 := by
  cases l with
  | nil => simp at h
  | cons a l => exact hi.le h
theorem hiK_mem : ∀ {l : List Kn}, l ≠ [] → ∃ k ∈ l, k.1 = hiK l
  | [], h => absurd rfl h
  | [a], _ => ⟨a, by simp, by rw [hiK]⟩
  | a :: b :: l, _ => by
    obtain ⟨k, hk, e⟩ := hiK_mem (l := b :: l) (by simp)
    exact ⟨k, List.mem_cons_of_mem _ hk, by rw [hiK_cons]; exact e⟩
theorem loK_mem {l : List Kn} (h : l ≠ []) : ∃ k ∈ l, k.1 = loK l := by
  cases l with
  | nil => exact absurd rfl h
  | cons a l => exact ⟨a, by simp, rfl⟩
theorem hiK_last : ∀ {l : List Kn}, l ≠ [] → (l.map (·.1)).getLast? = some (hiK l)
  | [], h => absurd rfl h
  | [a], _ => by rw [hiK]; rfl
  | a :: b :: l, _ => by
    rw [hiK_cons, List.map_cons, List.getLast?_cons, hiK_last (by simp)]
    rfl
theorem hiK_lastK {l : List Kn} {z : Kn} (h : l.getLast? = some z) : hiK l = z.1 := by
  have h0 : l ≠ [] := by
    intro e
    subst e
    simp at h
  have := hiK_last h0
  rw [List.getLast?_map, h] at this
  simpa using this.symm
/-- where no knot lies between there is one piece -/
theorem piece_of : ∀ {l : List Kn} {u v : Rat}, Inc l → 2 ≤ l.length → loK l ≤ u → u ≤ v → v ≤ hiK l → (∀ k ∈ l, k.1 ≤ u ∨ v ≤ k.1) → ∃ p ∈ pairs l, p.1.1 ≤ u ∧ v ≤ p.2.1
  | [], u, v, _, h, _, _, _, _ => by simp at h
  | [a], u, v, _, h, _, _, _, _ => by simp at h
  | [a, b], u, v, hi, _, h1, huv, h2, hn => ⟨(a, b), by simp [pairs], h1, by rw [hiK_cons, hiK] at h2; exact h2⟩
  | a :: b :: c :: l, u, v, hi, _, h1, huv, h2, hn => by
    by_cases hb : v ≤ b.1
    · exact ⟨(a, b), by rw [pairs_cons]; exact List.mem_cons_self, h1, hb⟩
    · have hb' : b.1 ≤ u := by
        rcases hn b (by simp) with h | h
        · exact h
        · exact absurd h hb
      obtain ⟨p, hp, q⟩ := piece_of (l := b :: c :: l) hi.tail (by simp) hb' huv (by rw [hiK_cons] at h2; exact h2) (fun k hk => hn k (List.mem_cons_of_mem _ hk))
      exact ⟨p, by rw [pairs_cons]; exact List.mem_cons_of_mem _ hp, q⟩
theorem val_piece : ∀ {l : List Kn} {p : Kn × Kn} {t : Rat}, Inc l → p ∈ pairs l → p.1.1 ≤ t → t ≤ p.2.1 → valK l t = ln p.1 p.2 t
  | [], p, t, _, h, _, _ => by simp [pairs] at h
  | [a], p, t, _, h, _, _ => by simp [pairs] at h
  | a :: b :: l, p, t, hi, h, h1, h2 => by
    rw [valK_2 hi.lt]
    rw [pairs_cons] at h
    rcases List.mem_cons.mp h with rfl | h
    · rw [if_neg (by grind)]
    · by_cases hb : b.1 < t
      · rw [if_pos hb]
        exact val_piece hi.tail h h1 h2
      · rw [if_neg hb]
        have hb' := hi.tail.le (pairs_mem h).1
        have e : p.1 = b := hi.tail.eq_head (pairs_mem h).1 (by grind)
        have et : t = b.1 := by grind
        rw [e, et, ln_r hi.lt, ln_l]
theorem val_mem {l : List Kn} {k : Kn} (hi : Inc l) (h2 : 2 ≤ l.length) (hk : k ∈ l) : valK l k.1 = k.2 := by
  obtain ⟨p, hp, h1, h3⟩ := piece_of hi h2 (loK_le hi hk) Rat.le_refl (le_hiK hi hk) (u := k.1) (v := k.1) (fun j hj => by grind)
  rw [val_piece hi hp h1 h3]
  rcases pairs_amid hi hp hk with h | h
  · have : k = p.1 := by
      have e : k.1 = p.1.1 := by grind
      have m1 := (pairs_mem hp).1
      have := List.pairwise_iff_getElem.mp hi
      obtain ⟨i, hi', ei⟩ := List.mem_iff_getElem.mp hk
      obtain ⟨j, hj', ej⟩ := List.mem_iff_getElem.mp m1
      rcases Nat.lt_trichotomy i j with c | c | c
      · have := this i j hi' hj' c
        rw [ei, ej] at this
        grind
      · subst c
        rw [← ei, ← ej]
      · have := this j i hj' hi' c
        rw [ei, ej] at this
        grind
    rw [this, ln_l]
  · have : k = p.2 := by
      have e : k.1 = p.2.1 := by grind
      have m1 := (pairs_mem hp).2
      have := List.pairwise_iff_getElem.mp hi
      obtain ⟨i, hi', ei⟩ := List.mem_iff_getElem.mp hk
      obtain ⟨j, hj', ej⟩ := List.mem_iff_getElem.mp m1
      rcases Nat.lt_trichotomy i j with c | c | c
      · have := this i j hi' hj' c
        rw [ei, ej] at this
        grind
      · subst c
        rw [← ei, ← ej]
      · have := this j i hj' hi' c
        rw [ei, ej] at this
        grind
    rw [this, ln_r (pairs_lt hi hp)]
/-- a straight piece stays between its ends -/
theorem ln_amid {a b : Kn} {t L U : Rat} (h : a.1 < b.1) (h1 : a.1 ≤ t) (h2 : t ≤ b.1) (la : L ≤ a.2 ∧ a.2 ≤ U) (lb : L ≤ b.2 ∧ b.2 ≤ U) : L ≤ ln a b t ∧ ln a b t ≤ U := by
  rw [← ln_eq h]
  have hw : 0 < b.1 - a.1 := by grind
  have e : ∀ c : Rat, c = (c * (b.1 - t) + c * (t - a.1)) / (b.1 - a.1) := by
    intro c
    have : c * (b.1 - t) + c * (t - a.1) = c * (b.1 - a.1) := by grind
    rw [this, Rat.mul_div_cancel (by grind)]
  have mono : ∀ x y : Rat, x ≤ y → x / (b.1 - a.1) ≤ y / (b.1 - a.1) := by
    intro x y hxy
    rw [Rat.div_def, Rat.div_def]
    exact Rat.mul_le_mul_of_nonneg_right hxy (Rat.le_of_lt (Rat.inv_pos.mpr hw))
  have p1 : 0 ≤ b.1 - t := by grind
  have p2 : 0 ≤ t - a.1 := by grind
  constructor
  · rw [e L]
    refine mono _ _ ?_
    have := Rat.mul_le_mul_of_nonneg_right la.1 p1
    have := Rat.mul_le_mul_of_nonneg_right lb.1 p2
    grind
  · rw [e U]
    refine mono _ _ ?_
    have := Rat.mul_le_mul_of_nonneg_right la.2 p1
    have := Rat.mul_le_mul_of_nonneg_right lb.2 p2
    grind
theorem val_amid' {l : List Kn} {t L U : Rat} (hi : Inc l) (h2 : 2 ≤ l.length) (h : ∀ k ∈ l, L ≤ k.2 ∧ k.2 ≤ U) (t1 : loK l ≤ t) (t2 : t ≤ hiK l) : L ≤ valK l t ∧ valK l t ≤ U := by
  obtain ⟨p, hp, h1, h3⟩ := piece_of hi h2 t1 Rat.le_refl t2 (u := t) (v := t) (fun j hj => by grind)
  rw [val_piece hi hp h1 h3]
  exact ln_amid (pairs_lt hi hp) h1 h3 (h _ (pairs_mem hp).1) (h _ (pairs_mem hp).2)
theorem ln_skip {a k n : Kn} {p : Rat} (h1 : a.1 < k.1) (h2 : k.1 < n.1) (h : slp a k = slp k n) : ln a n p = ln a k p ∧ ln k n p = ln a k p := by
  have e := slp_through h1 h2 h
  have e2 := slp_mul h1
  unfold ln
  rw [e, ← h]
  constructor
  · rfl
  · grind
theorem val_lk {p : Rat} : ∀ (l : List Kn) (a : Kn), Inc (a :: l) → valK (a :: lk a l) p = valK (a :: l) p
  | [], a, _ => by rw [lk]
  | [z], a, _ => by rw [lk]
  | k :: n :: l, a, h => by
    rw [lk_cons]
    have hk := h.lt
    have hn := h.tail.lt
    by_cases c : slp a k = slp k n
    · rw [if_pos c, val_lk (n :: l) a h.skip, valK_2 h.skip.lt, valK_2 hk, valK_2 hn]
      have e := ln_skip (p := p) hk hn c
      by_cases c1 : n.1 < p
      · rw [if_pos c1, if_pos (by grind), if_pos c1]
      · rw [if_neg c1, e.1]
        by_cases c2 : k.1 < p
        · rw [if_pos c2, if_neg c1, e.2]
        · rw [if_neg c2]
    · rw [if_neg c]
      have ih := val_lk (p := p) (n :: l) k h.tail
      have : ∃ z r, lk k (n :: l) = z :: r := by
        have := lk_ne (a := k) (l := n :: l) (by simp)
        cases e : lk k (n :: l) with
        | nil => exact absurd e this
        | cons z r => exact ⟨z, r, rfl⟩
      obtain ⟨z, r, e⟩ := this
      rw [valK_2 hk, valK_2 hk, ih]
theorem val_least {ks : List Kn} {p : Rat} (h : Inc ks) : valK (leastK ks) p = valK ks p := by
  cases ks with
  | nil => rfl
  | cons a l => exact val_lk l a h
theorem hiK_lk : ∀ (l : List Kn) (a : Kn), hiK (a :: lk a l) = hiK (a :: l)
  | [], a => by rw [lk]
  | [z], a => by rw [lk]
  | k :: n :: l, a => by
    rw [lk_cons]
    by_cases c : slp a k = slp k n
    · rw [if_pos c, hiK_lk (n :: l) a, hiK_cons, hiK_cons, hiK_cons]
    · rw [if_neg c, hiK_cons, hiK_cons, hiK_lk (n :: l) k]
theorem hiK_least (ks : List Kn) : hiK (leastK ks) = hiK ks := by
  cases ks with
  | nil => rfl
  | cons a l => exact hiK_lk l a
theorem loK_least (ks : List Kn) : loK (leastK ks) = loK ks := by
  cases ks with
  | nil => rfl
  | cons a l => rfl
/-! ### one map behind another: the knots -/
/-- the points at which the second behind the first may bend -/
def Bends (one o : List Kn) (x : Rat) : Prop := x ∈ one.map (·.1) ∨ ∃ p ∈ pairs one, ∃ k ∈ o, ((p.1.2 < k.1 ∧ k.1 < p.2.2) ∨ (p.2.2 < k.1 ∧ k.1 < p.1.2)) ∧ x = p.1.1 + (k.1 - p.1.2) / slp p.1 p.2
structure IsBeh (one o ks : List Kn) : Prop where
  inc : Inc ks
  xs : ∀ x, x ∈ ks.map (·.1) ↔ Bends one o x
  ys : ∀ k ∈ ks, k.2 = valK o (valK one k.1)
theorem sorted_ext : ∀ {l l' : List Rat}, l.Pairwise (fun a b => a < b) → l'.Pairwise (fun a b => a < b) → (∀ x, x ∈ l ↔ x ∈ l') → l = l'
  | [], [], _, _, _ => rfl
  | [], b :: l', _, _, h => by
    have := (h b).mpr (by simp)
    simp at this
  | a :: l, [], _, _, h => by
    have := (h a).mp (by simp)
    simp at this
  | a :: l, b :: l', h1, h2, h => by
    have p1 := List.pairwise_cons.mp h1
    have p2 := List.pairwise_cons.mp h2
    have e : a = b := by
      rcases List.mem_cons.mp ((h a).mp (by simp)) with e | e
      · exact e
      · rcases List.mem_cons.mp ((h b).mpr (by simp)) with e' | e'
        · exact e'.symm
        · have := p1.1 b e'
          have := p2.1 a e
          grind
    subst e
    congr 1
    refine sorted_ext p1.2 p2.2 fun x => ⟨fun hx => ?_, fun hx => ?_⟩
    · rcases List.mem_cons.mp ((h x).mp (List.mem_cons_of_mem _ hx)) with e | e
      · have := p1.1 x hx
        grind
      · exact e
    · rcases List.mem_cons.mp ((h x).mpr (List.mem_cons_of_mem _ hx)) with e | e
      · have := p2.1 x hx
        grind
      · exact e
theorem graph_ext {F : Rat → Rat} : ∀ {l l' : List Kn}, l.map (·.1) = l'.map (·.1) → (∀ k ∈ l, k.2 = F k.1) → (∀ k ∈ l', k.2 = F k.1) → l = l'
  | [], [], _, _, _ => rfl
  | [], b :: l', h, _, _ => by simp at h
  | a :: l, [], h, _, _ => by simp at h
  | a :: l, b :: l', h, h1, h2 => by
    simp only [List.map_cons, List.cons.injEq] at h
    have e : a = b := by
      have q1 := h1 a (by simp)
      have q2 := h2 b (by simp)
      exact Prod.ext h.1 (by rw [q1, q2, h.1])
    rw [e, graph_ext h.2 (fun k hk => h1 k (List.mem_cons_of_mem _ hk)) (fun k hk => h2 k (List.mem_cons_of_mem _ hk))]
theorem IsBeh.uniq {one o l l' : List Kn} (h : IsBeh one o l) (h' : IsBeh one o l') : l = l' := by
  refine graph_ext (F := fun x => valK o (valK one x)) ?_ h.ys h'.ys
  have p1 : (l.map (·.1)).Pairwise (fun a b => a < b) := by rw [List.pairwise_map]; exact h.inc
  have p2 : (l'.map (·.1)).Pairwise (fun a b => a < b) := by rw [List.pairwise_map]; exact h'.inc
  exact sorted_ext p1 p2 fun x => (h.xs x).trans (h'.xs x).symm

/-! ### one map behind another: values and sizes -/
theorem rlt (a b : Rat) : a < b ∨ b ≤ a := by
  by_cases h : a < b
  · exact .inl h
  · exact .inr (Rat.not_lt.mp h)
theorem pos_of_mul {s w : Rat} (hw : 0 < w) (h : 0 < s * w) : 0 < s := by
  rcases rlt 0 s with c | c
  · exact c
  · have := Rat.mul_le_mul_of_nonneg_right c (Rat.le_of_lt hw)
    grind
theorem neg_of_mul {s w : Rat} (hw : 0 < w) (h : s * w < 0) : s < 0 := by
  rcases rlt s 0 with c | c
  · exact c
  · have := Rat.mul_le_mul_of_nonneg_right c (Rat.le_of_lt hw)
    grind
/-- where a straight piece comes to a height amid -/
def inv (a b : Kn) (y : Rat) : Rat := a.1 + (y - a.2) / slp a b
def Amids (a b : Kn) (y : Rat) : Prop := (a.2 < y ∧ y < b.2) ∨ (b.2 < y ∧ y < a.2)
theorem inv_ok {a b : Kn} {y : Rat} (h : a.1 < b.1) (hy : Amids a b y) : a.1 < inv a b y ∧ inv a b y < b.1 ∧ ln a b (inv a b y) = y ∧ slp a b ≠ 0 := by
  have e := slp_mul h
  have hw : 0 < b.1 - a.1 := by grind
  unfold inv ln
  rcases hy with ⟨h1, h2⟩ | ⟨h1, h2⟩
  · have s0 : 0 < slp a b := pos_of_mul hw (by grind)
    have d : (y - a.2) / slp a b * slp a b = y - a.2 := Rat.div_mul_cancel (by grind)
    have d0 : 0 < (y - a.2) / slp a b := pos_of_mul s0 (by grind)
    have d1 : 0 < b.1 - a.1 - (y - a.2) / slp a b := pos_of_mul s0 (by grind)
    refine ⟨by grind, by grind, by grind, by grind⟩
  · have s0 : slp a b < 0 := neg_of_mul hw (by grind)
    have d : (y - a.2) / slp a b * slp a b = y - a.2 := Rat.div_mul_cancel (by grind)
    have d0 : 0 < (y - a.2) / slp a b := pos_of_mul (w := - slp a b) (by grind) (by grind)
    have d1 : 0 < b.1 - a.1 - (y - a.2) / slp a b := pos_of_mul (w := - slp a b) (by grind) (by grind)
    refine ⟨by grind, by grind, by grind, by grind⟩
theorem ln_mono {a b : Kn} {s t : Rat} (h : 0 < slp a b) : ln a b s < ln a b t ↔ s < t := by
  unfold ln
  constructor
  · intro q
    have : 0 < (t - s) * slp a b := by grind
    have := pos_of_mul h this
    grind
  · intro q
    have := Rat.mul_pos h (show 0 < t - s by grind)
    grind
theorem ln_anti {a b : Kn} {s t : Rat} (h : slp a b < 0) : ln a b s < ln a b t ↔ t < s := by
  unfold ln
  constructor
  · intro q
    have : 0 < (s - t) * (- slp a b) := by grind
    have := pos_of_mul (w := - slp a b) (by grind) this
    grind
  · intro q
    have := Rat.mul_pos (show 0 < - slp a b by grind) (show 0 < s - t by grind)
    grind
theorem ln_inj {a b : Kn} {s t : Rat} (h : slp a b ≠ 0) (e : ln a b s = ln a b t) : s = t := by
  unfold ln at e
  have : slp a b * (s - t) = 0 := by grind
  rcases Rat.mul_eq_zero.mp this with q | q
  · exact absurd q h
  · grind
theorem ln_affine {u v : Kn} {A B t : Rat} (h : u.1 < v.1) (hu : u.2 = A * u.1 + B) (hv : v.2 = A * v.1 + B) : ln u v t = A * t + B := by
  have e := slp_mul h
  have : slp u v = A := by
    have e1 : v.1 - u.1 ≠ 0 := by grind
    unfold slp
    rw [show v.2 - u.2 = A * (v.1 - u.1) by grind, Rat.mul_div_cancel e1]
  unfold ln
  grind
/-- a map of the stretch from L to U into itself -/
structure Good (L U : Rat) (ks : List Kn) : Prop where
  len : 2 ≤ ks.length
  inc : Inc ks
  lo : loK ks = L
  hi : hiK ks = U
  rng : ∀ k ∈ ks, L ≤ k.2 ∧ k.2 ≤ U
theorem Good.le {L U : Rat} {ks : List Kn} (h : Good L U ks) {k : Kn} (hk : k ∈ ks) : L ≤ k.1 ∧ k.1 ≤ U := by
  have := loK_le h.inc hk
  have := le_hiK h.inc hk
  rw [h.lo] at *
  rw [h.hi] at *
  exact ⟨by assumption, by assumption⟩
theorem Good.ne {L U : Rat} {ks : List Kn} (h : Good L U ks) : ks ≠ [] := by
  intro e
  have := h.len
  rw [e] at this
  simp at this
theorem Good.lt {L U : Rat} {ks : List Kn} (h : Good L U ks) : L < U := by
  match ks, h with
  | a :: b :: l, h =>
    have h1 := h.inc.lt
    have h2 := (h.le (k := b) (by simp)).2
    have h3 := h.lo
    rw [loK_cons] at h3
    grind
theorem Good.val {L U t : Rat} {ks : List Kn} (h : Good L U ks) (t1 : L ≤ t) (t2 : t ≤ U) : L ≤ valK ks t ∧ valK ks t ≤ U :=
  val_amid' h.inc h.len h.rng (by rw [h.lo]; exact t1) (by rw [h.hi]; exact t2)
theorem Good.piece {L U t : Rat} {ks : List Kn} (h : Good L U ks) (t1 : L ≤ t) (t2 : t ≤ U) : ∃ p ∈ pairs ks, p.1.1 ≤ t ∧ t ≤ p.2.1 ∧ valK ks t = ln p.1 p.2 t := by
  obtain ⟨p, hp, h1, h3⟩ := piece_of h.inc h.len (u := t) (v := t) (by rw [h.lo]; exact t1) Rat.le_refl (by rw [h.hi]; exact t2) (fun j hj => by grind)
  exact ⟨p, hp, h1, h3, val_piece h.inc hp h1 h3⟩
theorem Good.least {L U : Rat} {ks : List Kn} (h : Good L U ks) : Good L U (leastK ks) :=
  ⟨leastK_len h.len, h.inc.least, by rw [loK_least]; exact h.lo, by rw [hiK_least]; exact h.hi, fun k hk => h.rng k ((leastK_sub ks).subset hk)⟩
section
variable {L U : Rat} {one o ks : List Kn}
theorem Bends.rng (h1 : Good L U one) {x : Rat} (hx : Bends one o x) : L ≤ x ∧ x ≤ U := by
  rcases hx with hx | ⟨p, hp, k, hk, hy, rfl⟩
  · obtain ⟨k, hk, rfl⟩ := List.mem_map.mp hx
    exact h1.le hk
  · have q := inv_ok (pairs_lt h1.inc hp) hy
    have a1 := h1.le (pairs_mem hp).1
    have a2 := h1.le (pairs_mem hp).2
    unfold inv at q
    grind
theorem IsBeh.mem (h : IsBeh one o ks) {x : Rat} (hx : Bends one o x) : ∃ k ∈ ks, k.1 = x := by
  have := (h.xs x).mpr hx
  obtain ⟨k, hk, e⟩ := List.mem_map.mp this
  exact ⟨k, hk, e⟩
theorem IsBeh.bend (h : IsBeh one o ks) {k : Kn} (hk : k ∈ ks) : Bends one o k.1 := (h.xs k.1).mp (List.mem_map_of_mem hk)
theorem IsBeh.good (h : IsBeh one o ks) (h1 : Good L U one) (h2 : Good L U o) : Good L U ks := by
  have hlt := h1.lt
  obtain ⟨k0, hk0, e0⟩ := loK_mem h1.ne
  obtain ⟨k1, hk1, e1⟩ := hiK_mem h1.ne
  obtain ⟨a, ha, ea⟩ := h.mem (x := L) (.inl (by rw [← h1.lo, ← e0]; exact List.mem_map_of_mem hk0))
  obtain ⟨b, hb, eb⟩ := h.mem (x := U) (.inl (by rw [← h1.hi, ← e1]; exact List.mem_map_of_mem hk1))
  have hne : ks ≠ [] := by
    intro e
    rw [e] at ha
    simp at ha
  have r : ∀ k ∈ ks, L ≤ k.1 ∧ k.1 ≤ U := fun k hk => (h.bend hk).rng h1
  refine ⟨?_, h.inc, ?_, ?_, ?_⟩
  · rcases ks with _ | ⟨c, _ | ⟨d, l⟩⟩
    · simp at ha
    · simp at ha hb
      rw [ha] at ea
      rw [hb] at eb
      grind
    · simp
  · have := loK_le h.inc ha
    obtain ⟨c, hc, ec⟩ := loK_mem hne
    have := r c hc
    grind
  · have := le_hiK h.inc hb
    obtain ⟨c, hc, ec⟩ := hiK_mem hne
    have := r c hc
    grind
  · intro k hk
    rw [h.ys k hk]
    have q := h1.val (r k hk).1 (r k hk).2
    exact h2.val q.1 q.2
/-- neighbours of the new knots lie in one piece of the first, and their values in one of the second -/
theorem IsBeh.pair (h : IsBeh one o ks) (h1 : Good L U one) (h2 : Good L U o) {w : Kn × Kn} (hw : w ∈ pairs ks) :
    ∃ p ∈ pairs one, p.1.1 ≤ w.1.1 ∧ w.2.1 ≤ p.2.1 ∧ (slp p.1 p.2 = 0 ∨ (slp p.1 p.2 ≠ 0 ∧ ∃ q ∈ pairs o, ∀ t, w.1.1 ≤ t → t ≤ w.2.1 → q.1.1 ≤ ln p.1 p.2 t ∧ ln p.1 p.2 t ≤ q.2.1)) := by
  have g := h.good h1 h2
  have hlt := pairs_lt g.inc hw
  have r1 := g.le (pairs_mem hw).1
  have r2 := g.le (pairs_mem hw).2
  obtain ⟨p, hp, p1, p2⟩ := piece_of h1.inc h1.len (u := w.1.1) (v := w.2.1) (by rw [h1.lo]; exact r1.1) (Rat.le_of_lt hlt) (by rw [h1.hi]; exact r2.2) (fun k hk => by
    obtain ⟨c, hc, ec⟩ := h.mem (x := k.1) (.inl (List.mem_map_of_mem hk))
    have := pairs_amid g.inc hw hc
    rw [ec] at this
    exact this)
  refine ⟨p, hp, p1, p2, ?_⟩
  have plt := pairs_lt h1.inc hp
  by_cases s0 : slp p.1 p.2 = 0
  · exact .inl s0
  · refine .inr ⟨s0, ?_⟩
    have ra := h1.rng _ (pairs_mem hp).1
    have rb := h1.rng _ (pairs_mem hp).2
    have rng : ∀ t, w.1.1 ≤ t → t ≤ w.2.1 → L ≤ ln p.1 p.2 t ∧ ln p.1 p.2 t ≤ U := fun t t1 t2 => ln_amid plt (by grind) (by grind) ra rb
    have amid : ∀ k ∈ o, ∀ u v : Rat, w.1.1 ≤ u → u ≤ w.2.1 → w.1.1 ≤ v → v ≤ w.2.1 → ¬ (ln p.1 p.2 u < k.1 ∧ k.1 < ln p.1 p.2 v) := by
      intro k hk u v u1 u2 v1 v2 ⟨q1, q2⟩
      have l1 := ln_l (a := p.1) (b := p.2)
      have l2 := ln_r plt
      have key : Amids p.1 p.2 k.1 := by
        rcases rlt 0 (slp p.1 p.2) with c | c
        · left
          have m1 := ln_mono (a := p.1) (b := p.2) (s := u) (t := p.1.1) c
          have m2 := ln_mono (a := p.1) (b := p.2) (s := p.2.1) (t := v) c
          rw [l1] at m1
          rw [l2] at m2
          constructor <;> grind
        · right
          have c' : slp p.1 p.2 < 0 := by grind
          have m1 := ln_anti (a := p.1) (b := p.2) (s := u) (t := p.2.1) c'
          have m2 := ln_anti (a := p.1) (b := p.2) (s := p.1.1) (t := v) c'
          rw [l2] at m1
          rw [l1] at m2
          constructor <;> grind
      obtain ⟨i1, i2, i3, _⟩ := inv_ok plt key
      obtain ⟨c, hc, ec⟩ := h.mem (x := inv p.1 p.2 k.1) (.inr ⟨p, hp, k, hk, key, rfl⟩)
      have am := pairs_amid g.inc hw hc
      rw [ec] at am
      rw [← i3] at q1 q2
      rcases rlt 0 (slp p.1 p.2) with c | c
      · rw [ln_mono c] at q1 q2
        grind
      · rw [ln_anti (by grind)] at q1 q2
        grind
    have w1 := rng w.1.1 Rat.le_refl (Rat.le_of_lt hlt)
    have w2 := rng w.2.1 (Rat.le_of_lt hlt) Rat.le_refl
    rcases rlt 0 (slp p.1 p.2) with c | c
    · obtain ⟨q, hq, q1, q2⟩ := piece_of h2.inc h2.len (u := ln p.1 p.2 w.1.1) (v := ln p.1 p.2 w.2.1) (by rw [h2.lo]; exact w1.1) (Rat.le_of_lt ((ln_mono c).mpr hlt)) (by rw [h2.hi]; exact w2.2) (fun k hk => by
        have := amid k hk w.1.1 w.2.1 Rat.le_refl (Rat.le_of_lt hlt) (Rat.le_of_lt hlt) Rat.le_refl
        grind)
      refine ⟨q, hq, fun t t1 t2 => ?_⟩
      have m1 := ln_mono (a := p.1) (b := p.2) (s := t) (t := w.1.1) c
      have m2 := ln_mono (a := p.1) (b := p.2) (s := w.2.1) (t := t) c
      constructor <;> grind
    · have c' : slp p.1 p.2 < 0 := by grind
      obtain ⟨q, hq, q1, q2⟩ := piece_of h2.inc h2.len (u := ln p.1 p.2 w.2.1) (v := ln p.1 p.2 w.1.1) (by rw [h2.lo]; exact w2.1) (Rat.le_of_lt ((ln_anti c').mpr hlt)) (by rw [h2.hi]; exact w1.2) (fun k hk => by
        have := amid k hk w.2.1 w.1.1 (Rat.le_of_lt hlt) Rat.le_refl Rat.le_refl (Rat.le_of_lt hlt)
        grind)
      refine ⟨q, hq, fun t t1 t2 => ?_⟩
      have m1 := ln_anti (a := p.1) (b := p.2) (s := w.1.1) (t := t) c'
      have m2 := ln_anti (a := p.1) (b := p.2) (s := t) (t := w.2.1) c'
      constructor <;> grind
theorem IsBeh.val (h : IsBeh one o ks) (h1 : Good L U one) (h2 : Good L U o) {t : Rat} (t1 : L ≤ t) (t2 : t ≤ U) : valK ks t = valK o (valK one t) := by
  have g := h.good h1 h2
  obtain ⟨w, hw, w1, w2, e⟩ := g.piece t1 t2
  have hlt := pairs_lt g.inc hw
  have y1 := h.ys _ (pairs_mem hw).1
  have y2 := h.ys _ (pairs_mem hw).2
  obtain ⟨p, hp, p1, p2, hc⟩ := h.pair h1 h2 hw
  have v1 := val_piece h1.inc hp p1 (show w.1.1 ≤ p.2.1 by grind)
  have v2 := val_piece h1.inc hp (show p.1.1 ≤ w.2.1 by grind) p2
  have vt := val_piece h1.inc hp (show p.1.1 ≤ t by grind) (show t ≤ p.2.1 by grind)
  rw [v1] at y1
  rw [v2] at y2
  rw [e, vt]
  rcases hc with c | ⟨c, q, hq, hr⟩
  · have k : ∀ s, ln p.1 p.2 s = p.1.2 := by
      intro s
      unfold ln
      rw [c]
      grind
    rw [k] at y1 y2 ⊢
    have := ln_affine (A := 0) (B := valK o p.1.2) (t := t) hlt (by grind) (by grind)
    rw [this]
    grind
  · have z1 := val_piece h2.inc hq (hr _ Rat.le_refl (Rat.le_of_lt hlt)).1 (hr _ Rat.le_refl (Rat.le_of_lt hlt)).2
    have z2 := val_piece h2.inc hq (hr _ (Rat.le_of_lt hlt) Rat.le_refl).1 (hr _ (Rat.le_of_lt hlt) Rat.le_refl).2
    have zt := val_piece h2.inc hq (hr _ w1 w2).1 (hr _ w1 w2).2
    rw [z1] at y1
    rw [z2] at y2
    rw [zt]
    have := ln_affine (A := slp q.1 q.2 * slp p.1 p.2) (B := q.1.2 + slp q.1 q.2 * (p.1.2 - slp p.1 p.2 * p.1.1 - q.1.1)) (t := t) hlt (by rw [y1]; unfold ln; grind) (by rw [y2]; unfold ln; grind)
    rw [this]
    unfold ln
    grind
end

/-! ### the knots as the program puts them, and their sizes -/
instance (a b : Kn) (y : Rat) : Decidable (Amids a b y) := by unfold Amids; exact inferInstance
def amidF (a b : Kn) (o : List Kn) : List Kn := (o.filter fun k => decide (Amids a b k.1)).map fun k => (inv a b k.1, k.2)
def amidK (a b : Kn) (o : List Kn) : List Kn := if b.2 < a.2 then (amidF a b o).reverse else amidF a b o
def behL (o : List Kn) : List Kn → List Kn
  | a :: b :: l => amidK a b o ++ (b.1, valK o b.2) :: behL o (b :: l)
  | _ => []
def behK (one o : List Kn) : List Kn := match one with
  | a :: l => (a.1, valK o a.2) :: behL o (a :: l)
  | [] => []
theorem behL_cons {o : List Kn} {a b : Kn} {l : List Kn} : behL o (a :: b :: l) = amidK a b o ++ (b.1, valK o b.2) :: behL o (b :: l) := by rw [behL]
theorem mem_amidK {a b : Kn} {o : List Kn} {k : Kn} : k ∈ amidK a b o ↔ ∃ z ∈ o, Amids a b z.1 ∧ k = (inv a b z.1, z.2) := by
  have : k ∈ amidK a b o ↔ k ∈ amidF a b o := by
    unfold amidK
    split
    · exact List.mem_reverse
    · exact Iff.rfl
  rw [this]
  unfold amidF
  simp only [List.mem_map, List.mem_filter, decide_eq_true_eq]
  constructor
  · rintro ⟨z, ⟨h1, h2⟩, rfl⟩
    exact ⟨z, h1, h2, rfl⟩
  · rintro ⟨z, h1, h2, rfl⟩
    exact ⟨z, ⟨h1, h2⟩, rfl⟩
theorem inc_amidK {a b : Kn} {o : List Kn} (h : a.1 < b.1) (ho : Inc o) : Inc (amidK a b o) := by
  have e := slp_mul h
  have hw : 0 < b.1 - a.1 := by grind
  have fl : (o.filter fun k => decide (Amids a b k.1)).Pairwise fun x y => x.1 < y.1 := List.Pairwise.filter _ ho
  have dv : ∀ x y : Rat, slp a b ≠ 0 → (inv a b y - inv a b x) * slp a b = y - x := by
    intro x y s0
    unfold inv
    have d1 : (y - a.2) / slp a b * slp a b = y - a.2 := Rat.div_mul_cancel s0
    have d2 : (x - a.2) / slp a b * slp a b = x - a.2 := Rat.div_mul_cancel s0
    grind
  unfold amidK Inc
  split
  · rename_i c
    have s0 : slp a b < 0 := neg_of_mul hw (by grind)
    rw [List.pairwise_reverse]
    unfold amidF
    rw [List.pairwise_map]
    refine fl.imp fun {x y} hxy => ?_
    have := dv x.1 y.1 (by grind)
    have := pos_of_mul (s := inv a b x.1 - inv a b y.1) (w := - slp a b) (by grind) (by grind)
    show inv a b y.1 < inv a b x.1
    grind
  · rename_i c
    by_cases c2 : a.2 = b.2
    · have : (o.filter fun k => decide (Amids a b k.1)) = [] := by
        rw [List.filter_eq_nil_iff]
        intro k hk
        rw [decide_eq_true_eq]
        unfold Amids
        grind
      unfold amidF
      rw [this]
      exact .nil
    · have s0 : 0 < slp a b := pos_of_mul hw (by grind)
      unfold amidF
      rw [List.pairwise_map]
      refine fl.imp fun {x y} hxy => ?_
      have := dv x.1 y.1 (by grind)
      have := pos_of_mul (s := inv a b y.1 - inv a b x.1) (w := slp a b) (by grind) (by grind)
      show inv a b x.1 < inv a b y.1
      grind
theorem amidK_amid {a b : Kn} {o : List Kn} {k : Kn} (h : a.1 < b.1) (hk : k ∈ amidK a b o) : a.1 < k.1 ∧ k.1 < b.1 := by
  obtain ⟨z, hz, hy, rfl⟩ := mem_amidK.mp hk
  have := inv_ok h hy
  exact ⟨this.1, this.2.1⟩
theorem behL_inc {o : List Kn} (ho : Inc o) : ∀ (l : List Kn) (a : Kn), Inc (a :: l) → Inc (behL o (a :: l)) ∧ ∀ k ∈ behL o (a :: l), a.1 < k.1
  | [], a, _ => by simp [behL, Inc]
  | b :: l, a, h => by
    obtain ⟨i1, i2⟩ := behL_inc ho l b h.tail
    have hlt := h.lt
    rw [behL_cons]
    constructor
    · unfold Inc
      rw [List.pairwise_append]
      refine ⟨inc_amidK hlt ho, List.pairwise_cons.mpr ⟨fun k hk => i2 k hk, i1⟩, fun x hx y hy => ?_⟩
      have q := amidK_amid hlt hx
      rcases List.mem_cons.mp hy with rfl | hy
      · exact q.2
      · have := i2 y hy
        grind
    · intro k hk
      rcases List.mem_append.mp hk with hk | hk
      · exact (amidK_amid hlt hk).1
      · rcases List.mem_cons.mp hk with rfl | hk
        · exact hlt
        · have := i2 k hk
          grind
theorem mem_behL {o : List Kn} {x : Rat} : ∀ (l : List Kn) (a : Kn), x ∈ (behL o (a :: l)).map (·.1) ↔ x ∈ l.map (·.1) ∨ ∃ p ∈ pairs (a :: l), ∃ k ∈ o, Amids p.1 p.2 k.1 ∧ x = inv p.1 p.2 k.1
  | [], a => by simp [behL, pairs]
  | b :: l, a => by
    rw [behL_cons, pairs_cons]
    have ih := mem_behL (x := x) (o := o) l b
    simp only [List.map_append, List.map_cons, List.mem_append, List.mem_cons]
    rw [ih]
    constructor
    · rintro (h | h | h | h)
      · obtain ⟨k, hk, rfl⟩ := List.mem_map.mp h
        obtain ⟨z, hz, hy, rfl⟩ := mem_amidK.mp hk
        exact .inr ⟨(a, b), .inl rfl, z, hz, hy, rfl⟩
      · exact .inl (.inl h)
      · exact .inl (.inr h)
      · obtain ⟨p, hp, r⟩ := h
        exact .inr ⟨p, .inr hp, r⟩
    · rintro ((h | h) | ⟨p, rfl | hp, z, hz, hy, e⟩)
      · exact .inr (.inl h)
      · exact .inr (.inr (.inl h))
      · left
        exact List.mem_map.mpr ⟨(inv a b z.1, z.2), mem_amidK.mpr ⟨z, hz, hy, rfl⟩, e.symm⟩
      · exact .inr (.inr (.inr ⟨p, hp, z, hz, hy, e⟩))
theorem behL_ys {o one : List Kn} (ho : Inc o) (h2 : 2 ≤ o.length) (hone : Inc one) (g2 : 2 ≤ one.length) : ∀ (l : List Kn) (a : Kn), (∀ p ∈ pairs (a :: l), p ∈ pairs one) → ∀ k ∈ behL o (a :: l), k.2 = valK o (valK one k.1)
  | [], a, _, k, hk => by simp [behL] at hk
  | b :: l, a, hp, k, hk => by
    have hab : (a, b) ∈ pairs one := hp _ (by rw [pairs_cons]; exact List.mem_cons_self)
    have hlt := pairs_lt hone hab
    rw [behL_cons] at hk
    rcases List.mem_append.mp hk with hk | hk
    · obtain ⟨z, hz, hy, rfl⟩ := mem_amidK.mp hk
      obtain ⟨i1, i2, i3, _⟩ := inv_ok hlt hy
      show z.2 = valK o (valK one (inv a b z.1))
      rw [val_piece hone hab (Rat.le_of_lt i1) (Rat.le_of_lt i2)]
      show z.2 = valK o (ln a b (inv a b z.1))
      rw [i3, val_mem ho h2 hz]
    · rcases List.mem_cons.mp hk with rfl | hk
      · show valK o b.2 = valK o (valK one b.1)
        rw [val_mem hone g2 (pairs_mem hab).2]
      · exact behL_ys ho h2 hone g2 l b (fun p hp' => hp p (by rw [pairs_cons]; exact List.mem_cons_of_mem _ hp')) k hk
theorem isBeh_behK {L U : Rat} {one o : List Kn} (h1 : Good L U one) (h2 : Good L U o) : IsBeh one o (behK one o) := by
  match one, h1 with
  | [], h1 => exact absurd rfl h1.ne
  | a :: l, h1 =>
    obtain ⟨i1, i2⟩ := behL_inc h2.inc l a h1.inc
    refine ⟨List.pairwise_cons.mpr ⟨fun k hk => i2 k hk, i1⟩, fun x => ?_, ?_⟩
    · have := mem_behL (x := x) (o := o) l a
      show x ∈ ((a.1, valK o a.2) :: behL o (a :: l)).map (·.1) ↔ _
      rw [List.map_cons, List.mem_cons, this]
      unfold Bends
      rw [List.map_cons, List.mem_cons]
      constructor
      · rintro (h | h | h)
        · exact .inl (.inl h)
        · exact .inl (.inr h)
        · exact .inr h
      · rintro ((h | h) | h)
        · exact .inl h
        · exact .inr (.inl h)
        · exact .inr (.inr h)
    · intro k hk
      rcases List.mem_cons.mp hk with rfl | hk
      · show valK o a.2 = valK o (valK (a :: l) a.1)
        rw [val_mem h1.inc h1.len List.mem_cons_self]
      · exact behL_ys h2.inc h2.len h1.inc h1.len l a (fun p hp => hp) k hk
theorem amidK_len {a b : Kn} {o : List Kn} : (amidK a b o).length ≤ o.length := by
  have : (amidK a b o).length = (amidF a b o).length := by
    unfold amidK
    split
    · exact List.length_reverse
    · rfl
  rw [this]
  unfold amidF
  rw [List.length_map]
  exact List.length_filter_le _ _
theorem behL_len {o : List Kn} : ∀ (l : List Kn) (a : Kn), (behL o (a :: l)).length ≤ l.length * (o.length + 1)
  | [], a => by simp [behL]
  | b :: l, a => by
    rw [behL_cons]
    have := behL_len (o := o) l b
    have := amidK_len (a := a) (b := b) (o := o)
    simp only [List.length_append, List.length_cons, Nat.add_mul, Nat.one_mul]
    omega
theorem behK_len {one o : List Kn} : (behK one o).length ≤ one.length * (o.length + 1) := by
  match one with
  | [] => simp [behK]
  | a :: l =>
    have := behL_len (o := o) l a
    show ((a.1, valK o a.2) :: behL o (a :: l)).length ≤ _
    simp only [List.length_cons, Nat.add_mul, Nat.one_mul]
    omega
/-! sizes -/
def DF (be V : Nat) (q : Rat) : Prop := ∃ (u : Int) (v : Nat), 0 < v ∧ v ≤ V ∧ q * ((be : Rat) * (v : Rat)) = (u : Rat)
def LF (be N : Nat) (a b : Kn) : Prop := ∃ (P : Int) (D : Nat) (c : Int), 0 < D ∧ D ≤ N ∧ P.natAbs ≤ N ∧ (D : Rat) * be * a.2 = (P : Rat) * be * a.1 + c ∧ (D : Rat) * be * b.2 = (P : Rat) * be * b.1 + c
structure PF (be N : Nat) (ks : List Kn) : Prop where
  kn : ∀ k ∈ ks, DF be N k.1 ∧ DF be N k.2
  pc : ∀ p ∈ pairs ks, LF be N p.1 p.2
structure PF1 (be N : Nat) (ks : List Kn) : Prop where
  kn : ∀ k ∈ ks, DF be 1 k.1 ∧ DF be 1 k.2
  pc : ∀ p ∈ pairs ks, LF be N p.1 p.2
theorem DF.mono {be V W : Nat} {q : Rat} (h : DF be V q) (hv : V ≤ W) : DF be W q := by
  obtain ⟨u, v, h1, h2, h3⟩ := h
  exact ⟨u, v, h1, by omega, h3⟩
theorem LF.line {be N : Nat} {a b : Kn} {P c : Int} {D : Nat} {t : Rat} (h : a.1 < b.1) (hD : 0 < D) (hb : 0 < be) (ha : (D : Rat) * be * a.2 = (P : Rat) * be * a.1 + c) (hb' : (D : Rat) * be * b.2 = (P : Rat) * be * b.1 + c) :
    (D : Rat) * be * ln a b t = (P : Rat) * be * t + c := by
  have e := slp_mul h
  have e1 : b.1 - a.1 ≠ 0 := by grind
  have k : (D : Rat) * be * slp a b = (P : Rat) * be := by
    have : ((D : Rat) * be * slp a b - (P : Rat) * be) * (b.1 - a.1) = 0 := by grind
    rcases Rat.mul_eq_zero.mp this with q | q
    · grind
    · exact absurd q e1
  unfold ln
  grind
theorem nat_ne {n : Nat} (h : 0 < n) : (n : Rat) ≠ 0 := by
  have : n ≠ 0 := by omega
  exact_mod_cast this
theorem DF.val {be N V : Nat} {q : Kn × Kn} {y : Rat} (hb : 0 < be) (hq : q.1.1 < q.2.1) (h : LF be N q.1 q.2) (hy : DF be V y) : DF be (V * N) (ln q.1 q.2 y) := by
  obtain ⟨P, D, c, d0, dN, pN, e1, e2⟩ := h
  obtain ⟨u, v, v0, vV, ev⟩ := hy
  have := LF.line (N := N) (t := y) hq d0 hb e1 e2
  refine ⟨P * u + c * v, v * D, Nat.mul_pos v0 d0, Nat.mul_le_mul vV dN, ?_⟩
  simp only [Rat.intCast_add, Rat.intCast_mul, Rat.natCast_mul, Rat.intCast_natCast]
  grind
section
variable {L U : Rat} {one o ks : List Kn} {be N M : Nat}
theorem IsBeh.df1 (h1 : Good L U one) (p1 : PF be N one) (p2 : PF1 be M o) (hb : 0 < be) (hN : 1 ≤ N) {x : Rat} (hx : Bends one o x) : DF be N x ∧ DF be N (valK one x) := by
  rcases hx with hx | ⟨p, hp, k, hk, hy, rfl⟩
  · obtain ⟨k, hk, rfl⟩ := List.mem_map.mp hx
    rw [val_mem h1.inc h1.len hk]
    exact p1.kn k hk
  · have plt := pairs_lt h1.inc hp
    obtain ⟨i1, i2, i3, i4⟩ := inv_ok plt hy
    have ev : valK one (inv p.1 p.2 k.1) = k.1 := by
      rw [val_piece h1.inc hp (Rat.le_of_lt i1) (Rat.le_of_lt i2), i3]
    show DF be N (inv p.1 p.2 k.1) ∧ DF be N (valK one (inv p.1 p.2 k.1))
    rw [ev]
    refine ⟨?_, (p2.kn k hk).1.mono hN⟩
    obtain ⟨P, D, c, d0, dN, pN, e1, e2⟩ := p1.pc p hp
    have e3 := LF.line (N := N) (t := inv p.1 p.2 k.1) plt d0 hb e1 e2
    rw [i3] at e3
    obtain ⟨z, v, v0, v1, ez⟩ := (p2.kn k hk).1
    have hv : v = 1 := by omega
    subst hv
    have P0 : P ≠ 0 := by
      intro hP
      subst hP
      have d0' := nat_ne d0
      have b0' := nat_ne hb
      have : (D : Rat) * be * (p.1.2 - p.2.2) = 0 := by grind
      have : p.1.2 = p.2.2 := by
        rcases Rat.mul_eq_zero.mp this with q | q
        · rcases Rat.mul_eq_zero.mp q with q | q
          · exact absurd q d0'
          · exact absurd q b0'
        · grind
      grind
    rcases Int.lt_or_gt_of_ne P0 with c' | c'
    · refine ⟨-(D * z - c), P.natAbs, by omega, pN, ?_⟩
      have : ((P.natAbs : Nat) : Rat) = - (P : Rat) := by
        have : ((P.natAbs : Nat) : Int) = - P := by omega
        rw [← Rat.intCast_natCast, this, Rat.intCast_neg]
      rw [this]
      simp only [Rat.intCast_neg, Rat.intCast_sub, Rat.intCast_mul, Rat.intCast_natCast]
      grind
    · refine ⟨D * z - c, P.natAbs, by omega, pN, ?_⟩
      have : ((P.natAbs : Nat) : Rat) = (P : Rat) := by
        have : ((P.natAbs : Nat) : Int) = P := by omega
        rw [← Rat.intCast_natCast, this]
      rw [this]
      simp only [Rat.intCast_sub, Rat.intCast_mul, Rat.intCast_natCast]
      grind
theorem IsBeh.pf (h : IsBeh one o ks) (h1 : Good L U one) (h2 : Good L U o) (p1 : PF be N one) (p2 : PF1 be M o) (hb : 0 < be) (hN : 1 ≤ N) (hM : 1 ≤ M) : PF be (N * M) ks := by
  have g := h.good h1 h2
  have le : N ≤ N * M := Nat.le_mul_of_pos_right N hM
  have kn : ∀ k ∈ ks, DF be (N * M) k.1 ∧ DF be (N * M) k.2 := by
    intro k hk
    obtain ⟨a1, a2⟩ := IsBeh.df1 h1 p1 p2 hb hN (h.bend hk)
    refine ⟨a1.mono le, ?_⟩
    rw [h.ys k hk]
    have r := h1.val (g.le hk).1 (g.le hk).2
    obtain ⟨q, hq, _, _, e⟩ := h2.piece r.1 r.2
    rw [e]
    exact DF.val hb (pairs_lt h2.inc hq) (p2.pc q hq) a2
  refine ⟨kn, ?_⟩
  intro w hw
  have hlt := pairs_lt g.inc hw
  obtain ⟨p, hp, q1, q2, hc⟩ := h.pair h1 h2 hw
  have plt := pairs_lt h1.inc hp
  have y1 := h.ys _ (pairs_mem hw).1
  have y2 := h.ys _ (pairs_mem hw).2
  have v1 := val_piece h1.inc hp q1 (show w.1.1 ≤ p.2.1 by grind)
  have v2 := val_piece h1.inc hp (show p.1.1 ≤ w.2.1 by grind) q2
  rw [v1] at y1
  rw [v2] at y2
  rcases hc with c | ⟨c, q, hq, hr⟩
  · have k : ∀ s, ln p.1 p.2 s = p.1.2 := by
      intro s
      unfold ln
      rw [c]
      grind
    rw [k] at y1 y2
    obtain ⟨u, v, v0, vN, ev⟩ := (kn _ (pairs_mem hw).1).2
    refine ⟨0, v, u, v0, vN, by simp, ?_, ?_⟩
    · simp only [Rat.intCast_zero]
      grind
    · have : w.2.2 = w.1.2 := by rw [y1, y2]
      rw [this]
      simp only [Rat.intCast_zero]
      grind
  · have z1 := val_piece h2.inc hq (hr _ Rat.le_refl (Rat.le_of_lt hlt)).1 (hr _ Rat.le_refl (Rat.le_of_lt hlt)).2
    have z2 := val_piece h2.inc hq (hr _ (Rat.le_of_lt hlt) Rat.le_refl).1 (hr _ (Rat.le_of_lt hlt) Rat.le_refl).2
    rw [z1] at y1
    rw [z2] at y2
    have qlt := pairs_lt h2.inc hq
    obtain ⟨P, D, c1, d0, dN, pN, e1, e2⟩ := p1.pc p hp
    obtain ⟨P', D', c2, d0', dN', pN', f1, f2⟩ := p2.pc q hq
    refine ⟨P' * P, D * D', P' * c1 + c2 * D, Nat.mul_pos d0 d0', Nat.mul_le_mul dN dN', ?_, ?_, ?_⟩
    · rw [Int.natAbs_mul, Nat.mul_comm N M]
      exact Nat.mul_le_mul pN' pN
    · have a1 := LF.line (N := N) (t := w.1.1) plt d0 hb e1 e2
      have a2 := LF.line (N := M) (t := ln p.1 p.2 w.1.1) qlt d0' hb f1 f2
      rw [← y1] at a2
      simp only [Rat.intCast_add, Rat.intCast_mul, Rat.natCast_mul, Rat.intCast_natCast]
      grind
    · have a1 := LF.line (N := N) (t := w.2.1) plt d0 hb e1 e2
      have a2 := LF.line (N := M) (t := ln p.1 p.2 w.2.1) qlt d0' hb f1 f2
      rw [← y2] at a2
      simp only [Rat.intCast_add, Rat.intCast_mul, Rat.natCast_mul, Rat.intCast_natCast]
      grind
end
theorem LF.skip {be N : Nat} {a k n : Kn} (hb : 0 < be) (h1 : a.1 < k.1) (h2 : k.1 < n.1) (h : slp a k = slp k n) (l : LF be N a k) : LF be N a n := by
  obtain ⟨P, D, c, d0, dN, pN, e1, e2⟩ := l
  refine ⟨P, D, c, d0, dN, pN, e1, ?_⟩
  have := LF.line (N := N) (t := n.1) h1 d0 hb e1 e2
  rw [← (ln_skip h1 h2 h).1, ln_r (by grind)] at this
  exact this
theorem pc_lk {be N : Nat} (hb : 0 < be) : ∀ (l : List Kn) (a : Kn), Inc (a :: l) → (∀ p ∈ pairs (a :: l), LF be N p.1 p.2) → ∀ p ∈ pairs (a :: lk a l), LF be N p.1 p.2
  | [], a, _, h => by rw [lk]; exact h
  | [z], a, _, h => by rw [lk]; exact h
  | k :: n :: l, a, hi, h => by
    rw [lk_cons]
    have hak : LF be N a k := h (a, k) (by rw [pairs_cons]; exact List.mem_cons_self)
    have hrest : ∀ p ∈ pairs (k :: n :: l), LF be N p.1 p.2 := fun p hp => h p (by rw [pairs_cons]; exact List.mem_cons_of_mem _ hp)
    split
    · rename_i c
      refine pc_lk hb (n :: l) a hi.skip fun p hp => ?_
      rw [pairs_cons] at hp
      rcases List.mem_cons.mp hp with rfl | hp
      · exact LF.skip hb hi.lt hi.tail.lt c hak
      · exact hrest p (by rw [pairs_cons]; exact List.mem_cons_of_mem _ hp)
    · intro p hp
      rw [pairs_cons] at hp
      rcases List.mem_cons.mp hp with rfl | hp
      · exact hak
      · exact pc_lk hb (n :: l) k hi.tail hrest p hp
theorem PF.least {be N : Nat} {ks : List Kn} (hb : 0 < be) (hi : Inc ks) (h : PF be N ks) : PF be N (leastK ks) := by
  refine ⟨fun k hk => h.kn k ((leastK_sub ks).subset hk), ?_⟩
  cases ks with
  | nil => exact h.pc
  | cons a l => exact pc_lk hb l a hi h.pc
/-- few enough bits -/
theorem DF.bd {be V n m r k : Nat} {q : Rat} (h : DF be V q) (hb : 0 < be) (hb' : be ≤ 2 ^ n) (hV : V ≤ 2 ^ m) (q1 : -((2 : Rat) ^ r) ≤ q) (q2 : q ≤ (2 : Rat) ^ r) (hk : n + m + r < k) : Bd k q := by
  obtain ⟨u, v, v0, vV, e⟩ := h
  have bv : 0 < be * v := Nat.mul_pos hb v0
  have hle : be * v ≤ 2 ^ (n + m) := by
    rw [Nat.pow_add]
    exact Nat.mul_le_mul hb' (Nat.le_trans vV hV)
  have e' : q = (u : Rat) / (((be * v : Nat) : Int) : Rat) := by
    have n0 : ((be * v : Nat) : Rat) ≠ 0 := nat_ne bv
    rw [Rat.intCast_natCast]
    rw [Rat.natCast_mul] at *
    rw [← e, Rat.mul_div_cancel n0]
  rw [e']
  have hp : (2 : Nat) ^ (n + m) < 2 ^ k := Nat.pow_lt_pow_right (by decide) (by omega)
  refine Bd.of_div (by omega) ?_ (by rw [Int.natAbs_natCast]; omega)
  -- the numerator
  have hpos : (0 : Rat) ≤ (be : Rat) * (v : Rat) := by
    have : (0 : Rat) ≤ ((be * v : Nat) : Rat) := Rat.natCast_nonneg
    rwa [Rat.natCast_mul] at this
  have u1 : (u : Rat) ≤ (2 : Rat) ^ r * ((be : Rat) * (v : Rat)) := by
    rw [← e]
    exact Rat.mul_le_mul_of_nonneg_right q2 hpos
  have u2 : -((2 : Rat) ^ r * ((be : Rat) * (v : Rat))) ≤ (u : Rat) := by
    rw [← e, ← Rat.neg_mul]
    exact Rat.mul_le_mul_of_nonneg_right q1 hpos
  have c1 : (2 : Rat) ^ r * ((be : Rat) * (v : Rat)) = ((2 ^ r * (be * v) : Nat) : Rat) := by
    rw [Rat.natCast_mul, Rat.natCast_mul, Rat.natCast_pow]
    rfl
  rw [c1] at u1 u2
  have u1' : u ≤ ((2 ^ r * (be * v) : Nat) : Int) := by
    rw [← Rat.intCast_natCast] at u1
    exact_mod_cast u1
  have u2' : -((2 ^ r * (be * v) : Nat) : Int) ≤ u := by
    rw [← Rat.intCast_natCast] at u2
    exact_mod_cast u2
  have b : 2 ^ r * (be * v) ≤ 2 ^ (r + (n + m)) := by
    rw [Nat.pow_add]
    exact Nat.mul_le_mul_left _ hle
  have b' : (2 : Nat) ^ (r + (n + m)) < 2 ^ k := Nat.pow_lt_pow_right (by decide) (by omega)
  omega

/-! ### readings of fractions and knots, for simp (the names x_..) -/
section
variable {m : Mu} {R : DK} {q : Rat} {k : Kn} {ks : List Kn} {i : Int}
theorem x_fr0 : gIx (fr q) (.int 0) m R = R (.int q.num) m := by unfold fr; rw [gIx_tup, atK_0]
theorem x_fr1 : gIx (fr q) (.int 1) m R = R (.int (q.den : Int)) m := by unfold fr; rw [gIx_tup, atK_1]
theorem x_kn0 : gIx (knD k) (.int 0) m R = R (fr k.1) m := by unfold knD; rw [gIx_tup, atK_0]
theorem x_kn1 : gIx (knD k) (.int 1) m R = R (fr k.2) m := by unfold knD; rw [gIx_tup, atK_1]
theorem x_map : gIx (mapD ks) (.int i) m R = atK (ks.map knD) i fun d => R d m := by unfold mapD; rw [gIx_tup]
theorem x_at0 {α : Type} {f : α → D} {a : α} {l : List α} {k : D → Prop} : atK ((a :: l).map f) 0 k = k (f a) := by rw [List.map_cons, atK_0]
theorem x_len : gLen [mapD ks] m R = R (.int ks.length) m := by unfold mapD; rw [gLen_tup, List.length_map]
theorem x_row : rowIt m (mapD ks) = some ⟨ks.map knD, fun _ => True⟩ := by unfold mapD; rw [rowIt_tup]
theorem x_cut {lo hi : Option Int} : gCut lo hi (mapD ks) m R = R (.tup (cutD (ks.map knD) lo hi)) m := by unfold mapD; rw [gCut_tup]
theorem x_tup2 {n : Nat} {gs : DTGs} {r : DSt} {R : DSt → Mu → Prop} : gTup' n gs (knD k) r m R = (2 = n ∧ gs [fr k.1, fr k.2] r m R) := by unfold knD; rw [gTup_]; rfl
end
/-- while, by a measure -/
theorem while_ind {tt : DTT} {tb : DTS} {E : DEnds} (I : Nat → DSt → Mu → Prop)
    (h : ∀ n (nx : DSt → Mu → Prop), (∀ k r m, k < n → I k r m → nx r m) → ∀ r m, I n r m → tt r m fun b m1 => if b = true then tb { E with nx := nx, ct := nx, bk := E.nx } r m1 else E.nx r m1) (n : Nat) (r : DSt) (m : Mu) (hI : I n r m) : sWhile tt tb E r m := by
  have key : ∀ N n r m, n < N → I n r m → whileN tt tb N E r m := by
    intro N
    induction N with
    | zero => intro n r m hn; omega
    | succ N ih =>
      intro n r m hn hI
      unfold whileN
      exact h n (whileN tt tb N E) (fun k r m hk hI => ih k r m (by omega) hI) r m hI
  exact ⟨n + 1, key (n + 1) n r m (by omega) hI⟩
/-! ### sides -/
def sgQ (p q : Rat) : Int := if q < p then 1 else if p < q then -1 else 0
theorem sg_neg {p q : Rat} : sgQ p q < 0 ↔ p < q := by
  unfold sgQ
  by_cases c : q < p
  · rw [if_pos c]
    constructor
    · intro h; omega
    · intro h; grind
  · rw [if_neg c]
    by_cases d : p < q
    · rw [if_pos d]; exact ⟨fun _ => d, fun _ => by decide⟩
    · rw [if_neg d]; exact ⟨fun h => by omega, fun h => absurd h d⟩
theorem sg_pos {p q : Rat} : 0 < sgQ p q ↔ q < p := by
  unfold sgQ
  by_cases c : q < p
  · rw [if_pos c]
    exact ⟨fun _ => c, fun _ => by decide⟩
  · rw [if_neg c]
    by_cases d : p < q
    · rw [if_pos d]; exact ⟨fun h => by omega, fun h => absurd h c⟩
    · rw [if_neg d]; exact ⟨fun h => by omega, fun h => absurd h c⟩
theorem sg_zero {p q : Rat} : sgQ p q = 0 ↔ p = q := by
  unfold sgQ
  by_cases c : q < p
  · rw [if_pos c]
    exact ⟨fun h => by omega, fun h => by grind⟩
  · rw [if_neg c]
    by_cases d : p < q
    · rw [if_pos d]; exact ⟨fun h => by omega, fun h => by grind⟩
    · rw [if_neg d]; exact ⟨fun h => by grind, fun h => rfl⟩
theorem sg_cases (p q : Rat) : (sgQ p q = 1 ∧ q < p) ∨ (sgQ p q = -1 ∧ p < q) ∨ (sgQ p q = 0 ∧ p = q) := by
  unfold sgQ
  by_cases c : q < p
  · rw [if_pos c]; exact .inl ⟨rfl, c⟩
  · rw [if_neg c]
    by_cases d : p < q
    · rw [if_pos d]; exact .inr (.inl ⟨rfl, d⟩)
    · rw [if_neg d]; exact .inr (.inr ⟨rfl, by grind⟩)
def spSide : DSp := fun ds m R _ => ∃ p q : Rat, ds = [fr p, fr q] ∧ Bd 4000 p ∧ Bd 4000 q ∧ R (.int (sgQ p q)) m
theorem len_spSide : ∀ ds m R E, spSide ds m R E → ds.length = 2 := by
  rintro ds m R E ⟨a, b, rfl, _⟩; rfl
theorem sg_num (p q : Rat) : sgQ p q = (if 0 < p.num * q.den - q.num * p.den then 1 else 0) - (if p.num * q.den - q.num * p.den < 0 then 1 else 0) := by
  have h1 := Rat.lt_iff p q
  have h2 := Rat.lt_iff q p
  rcases sg_cases p q with ⟨e, c⟩ | ⟨e, c⟩ | ⟨e, c⟩
  · have := h2.mp c
    rw [e, if_pos (by omega), if_neg (by omega)]
    rfl
  · have := h1.mp c
    rw [e, if_neg (by omega), if_pos (by omega)]
    rfl
  · subst c
    rw [e, if_neg (by omega), if_neg (by omega)]
    rfl
/-- a list that was made and is forgotten -/
theorem fin_two {R : DK} {d : D} {m : Mu} {a b : Addr} {o u : O} (ha : m a = none) (hR : R d (mput m b u)) : fin R d (mput (mput m a o) b u) := by
  refine ⟨mput m b u, fun c w hc => ?_, hR⟩
  by_cases e : c = b
  · subst e
    rw [mput_same] at hc ⊢
    exact hc
  · rw [mput_ne e] at hc ⊢
    rw [mput_ne (ne_of hc ha)]
    exact hc
/-! ### turned -/
def turnK (ks : List Kn) : Nat → List Kn
  | 0 => [(loK ks, loK ks), (hiK ks, hiK ks)]
  | n + 1 => leastK (behK (turnK ks n) ks)
section
variable {L U : Rat} {ks : List Kn} {be M : Nat}
theorem good_id (h : L < U) : Good L U [(L, L), (U, U)] := by
  refine ⟨by simp, List.pairwise_cons.mpr ⟨fun x hx => by simp at hx; subst hx; exact h, by simp⟩, rfl, by rw [hiK_cons, hiK], fun k hk => ?_⟩
  simp at hk
  rcases hk with rfl | rfl
  · exact ⟨Rat.le_refl, Rat.le_of_lt h⟩
  · exact ⟨Rat.le_of_lt h, Rat.le_refl⟩
theorem turnK_good (h : Good L U ks) : ∀ n, Good L U (turnK ks n)
  | 0 => by
    unfold turnK
    rw [h.lo, h.hi]
    exact good_id h.lt
  | n + 1 => by
    unfold turnK
    exact ((isBeh_behK (turnK_good h n) h).good (turnK_good h n) h).least
theorem turnK_beh (h : Good L U ks) (n : Nat) : IsBeh (turnK ks n) ks (behK (turnK ks n) ks) := isBeh_behK (turnK_good h n) h
theorem turnK_len : ∀ n, (turnK ks n).length ≤ 2 * (ks.length + 1) ^ n
  | 0 => by unfold turnK; simp
  | n + 1 => by
    unfold turnK
    have h1 := leastK_le (behK (turnK ks n) ks)
    have h2 := behK_len (one := turnK ks n) (o := ks)
    have h3 := Nat.mul_le_mul_right (ks.length + 1) (turnK_len n)
    rw [Nat.pow_succ, ← Nat.mul_assoc]
    omega
theorem turnK_pf (h : Good L U ks) (p : PF1 be M ks) (hb : 0 < be) (hM : 1 ≤ M) : ∀ n, PF be (M ^ n) (turnK ks n)
  | 0 => by
    unfold turnK
    obtain ⟨k0, hk0, e0⟩ := loK_mem h.ne
    obtain ⟨k1, hk1, e1⟩ := hiK_mem h.ne
    refine ⟨fun k hk => ?_, fun w hw => ?_⟩
    · simp at hk
      rcases hk with rfl | rfl
      · rw [← e0]
        exact ⟨(p.kn k0 hk0).1, (p.kn k0 hk0).1⟩
      · rw [← e1]
        exact ⟨(p.kn k1 hk1).1, (p.kn k1 hk1).1⟩
    · simp [pairs] at hw
      subst hw
      refine ⟨1, 1, 0, by decide, by simp, by simp, ?_, ?_⟩
      · show ((1 : Nat) : Rat) * be * loK ks = ((1 : Int) : Rat) * be * loK ks + ((0 : Int) : Rat)
        grind
      · show ((1 : Nat) : Rat) * be * hiK ks = ((1 : Int) : Rat) * be * hiK ks + ((0 : Int) : Rat)
        grind
  | n + 1 => by
    unfold turnK
    rw [Nat.pow_succ]
    have b := turnK_beh h n
    have hp : 1 ≤ M ^ n := Nat.pow_pos hM
    exact PF.least hb b.inc (b.pf (turnK_good h n) h (turnK_pf h p hb hM n) p hb hp hM)
/-- so many turns, one by one -/
def iterV (ks : List Kn) : Nat → Rat → Rat
  | 0, t => t
  | n + 1, t => valK ks (iterV ks n t)
theorem iterV_rng (h : Good L U ks) {t : Rat} (t1 : L ≤ t) (t2 : t ≤ U) : ∀ n, L ≤ iterV ks n t ∧ iterV ks n t ≤ U
  | 0 => ⟨t1, t2⟩
  | n + 1 => by
    have := iterV_rng h t1 t2 n
    exact h.val this.1 this.2
theorem turnK_val (h : Good L U ks) {t : Rat} (t1 : L ≤ t) (t2 : t ≤ U) : ∀ n, valK (turnK ks n) t = iterV ks n t
  | 0 => by
    unfold turnK iterV
    have hlt := h.lt
    rw [h.lo, h.hi, valK_2 (by exact hlt), if_neg (by grind)]
    unfold ln
    have : slp (L, L) (U, U) = 1 := by
      unfold slp
      show (U - L) / (U - L) = 1
      rw [Rat.div_def, Rat.mul_inv_cancel _ (by grind)]
    rw [this]
    grind
  | n + 1 => by
    unfold turnK iterV
    have b := turnK_beh h n
    rw [val_least b.inc, b.val (turnK_good h n) h t1 t2, turnK_val h t1 t2 n]
end
/-- the map that stays, behind which a map is the map -/
theorem beh_id {L U : Rat} {ks : List Kn} (h : Good L U ks) : behK [(L, L), (U, U)] ks = ks := by
  have hlt := h.lt
  have gi := good_id hlt
  refine (isBeh_behK gi h).uniq ⟨h.inc, fun x => ?_, fun k hk => ?_⟩
  · have s1 : slp (L, L) (U, U) = 1 := by
      unfold slp
      show (U - L) / (U - L) = 1
      rw [Rat.div_def, Rat.mul_inv_cancel _ (by grind)]
    have pr : pairs [((L, L) : Kn), (U, U)] = [((L, L), (U, U))] := by simp [pairs]
    unfold Bends
    rw [pr]
    constructor
    · intro hx
      obtain ⟨k, hk, rfl⟩ := List.mem_map.mp hx
      have r := h.le hk
      by_cases c1 : k.1 = L
      · left
        simp [c1]
      · by_cases c2 : k.1 = U
        · left
          simp [c2]
        · right
          refine ⟨_, List.mem_singleton.mpr rfl, k, hk, .inl ⟨by grind, by grind⟩, ?_⟩
          show k.1 = L + (k.1 - L) / slp (L, L) (U, U)
          rw [s1]
          grind
    · rintro (hx | ⟨p, hp, k, hk, _, e⟩)
      · simp at hx
        rcases hx with rfl | rfl
        · obtain ⟨k, hk, e⟩ := loK_mem h.ne
          exact List.mem_map.mpr ⟨k, hk, by rw [e]; exact h.lo⟩
        · obtain ⟨k, hk, e⟩ := hiK_mem h.ne
          exact List.mem_map.mpr ⟨k, hk, by rw [e]; exact h.hi⟩
      · simp at hp
        subst hp
        refine List.mem_map.mpr ⟨k, hk, ?_⟩
        rw [e]
        show k.1 = L + (k.1 - L) / slp (L, L) (U, U)
        rw [s1]
        grind
  · have r := h.le hk
    have := turnK_val h r.1 r.2 0
    unfold turnK iterV at this
    rw [h.lo, h.hi] at this
    rw [this, val_mem h.inc h.len hk]
theorem turnK_one {L U : Rat} {ks : List Kn} (h : Good L U ks) : turnK ks 1 = leastK ks := by
  show leastK (behK [(loK ks, loK ks), (hiK ks, hiK ks)] ks) = _
  rw [h.lo, h.hi, beh_id h]
theorem Good.head {L U : Rat} {a : Kn} {l : List Kn} (h : Good L U (a :: l)) : a.1 = L := h.lo
theorem Good.last {L U : Rat} {ks : List Kn} (h : Good L U ks) : ∃ z, ks.getLast? = some z ∧ z.1 = U ∧ (ks.map knD).getLast? = some (knD z) := by
  have h0 := h.ne
  refine ⟨ks.getLast h0, List.getLast?_eq_some_getLast h0, ?_, ?_⟩
  · rw [← h.hi, hiK_lastK (List.getLast?_eq_some_getLast h0)]
  · rw [List.getLast?_map, List.getLast?_eq_some_getLast h0]
    rfl
theorem Good.headD {L U : Rat} {ks : List Kn} (h : Good L U ks) : ∃ a, ks.head? = some a ∧ a ∈ ks ∧ a.1 = L ∧ (ks.map knD)[0]? = some (knD a) := by
  match ks, h with
  | a :: l, h => exact ⟨a, rfl, by simp, h.lo, by simp⟩

/-! ### the maps of the first family turned -/
theorem GoodMap.good {ks : List Kn} (h : GoodMap ks) : Good (loK ks) (hiK ks) ks := by
  refine ⟨h.len, h.inc, rfl, rfl, ?_⟩
  obtain ⟨lo, hi, e1, e2, hr⟩ := h.rng
  have h0 : ks ≠ [] := by
    intro e
    have := h.len
    rw [e] at this
    simp at this
  have l : loK ks = lo := by
    match ks, h0 with
    | a :: l, _ =>
      show a.1 = lo
      simpa using e1
  have u : hiK ks = hi := by
    have := hiK_last h0
    rw [e2] at this
    simpa using this.symm
  rw [l, u]
  exact hr
structure Tur (ks : List Kn) (n : Nat) : Prop where
  len : 2 * (ks.length + 1) ^ n ≤ 15000000
  len1 : ks.length ≤ 100000
  good : Good (loK ks) (hiK ks) ks
  bd : BdK 400 ks
  bdt : ∀ i, i < n → BdK 400 (turnK ks i) ∧ BdK 900 (behK (turnK ks i) ks)
/-! ### the family of seeds and cells: draws, maps, stretches -/
theorem draw_ext {a : Addr} {m : Mu} {most : Int} {R : DK} {E : DXK} (h : isSeed (m a)) (h0 : 0 < most) (h1 : most < 2 ^ 64) (hR : ∀ (v : Int) (m' : Mu), isSeed (m' a) → Ext a m m' → 0 ≤ v → v < most → R (.int v) m') : spDraw [.ref a, .int most] m R E :=
  ⟨h, h0, h1, fun v o ho v0 v1 => hR v _ (by rw [mput_same]; exact ho) Ext.put v0 v1⟩
theorem seed_ne {m : Mu} {a x : Addr} (h : isSeed (m a)) (hx : m x = none) : x ≠ a := by
  intro e
  subst e
  rw [hx] at h
  exact h
theorem seed_put {m : Mu} {a x : Addr} {o : O} (h : isSeed (m a)) (hx : x ≠ a) : isSeed (mput m x o a) := by
  rw [mput_ne (Ne.symm hx)]
  exact h
theorem Ext.get {a x : Addr} {m m' : Mu} {o : O} (h : Ext a m m') (xa : x ≠ a) (hx : m x = some o) : m' x = some o := h x o xa hx
/-- a map as these laws draw them -/
structure KnC (ks : List Kn) : Prop where
  good : Good (loK ks) (hiK ks) ks
  bd : BdK 40 ks
  cd : ∃ be : Nat, 1 ≤ be ∧ be ≤ 2 ^ 20 ∧ ∀ k ∈ ks, ∃ z w : Int, (-(2 ^ 20) ≤ z ∧ z ≤ 2 ^ 20) ∧ (-(2 ^ 20) ≤ w ∧ w ≤ 2 ^ 20) ∧ k.1 = (z : Rat) / ((be : Int) : Rat) ∧ k.2 = (w : Rat) / ((be : Int) : Rat)
/-! ### the least and the greatest value on a stretch -/
def insideK (ks : List Kn) (a b : Rat) : List Rat := (ks.filter fun k => decide (a < k.1) && decide (k.1 < b)).map (·.2)
def mnmx (s : Kn) (x : Rat) : Kn := (if x < s.1 then x else s.1, if s.2 < x then x else s.2)
def rangeK (ks : List Kn) (a b : Rat) : Kn := (insideK ks a b ++ [valK ks b]).foldl mnmx (valK ks a, valK ks a)
theorem val_bd {ks : List Kn} {p : Rat} {n b : Nat} (hi : Inc ks) (h2 : 2 ≤ ks.length) (hk : BdK n ks) (hp : Bd b p) (p1 : loK ks ≤ p) (p2 : p ≤ hiK ks) : Bd (n + ((2 * n + 1) + (2 * n + 1) + (b + n + 1)) + 1) (valK ks p) := by
  obtain ⟨q, hq, h1, h3⟩ := piece_of hi h2 (u := p) (v := p) p1 Rat.le_refl p2 (fun j hj => by grind)
  rw [val_piece hi hq h1 h3]
  have ba := hk _ (pairs_mem hq).1
  have bb := hk _ (pairs_mem hq).2
  have lt := pairs_lt hi hq
  have s1 : Bd (2 * n + 1) (q.2.2 - q.1.2) := bb.2.sub ba.2
  have s2 : Bd (2 * n + 1) (q.2.1 - q.1.1) := bb.1.sub ba.1
  have s3 : Bd ((2 * n + 1) + (2 * n + 1)) (slp q.1 q.2) := s1.div s2 (by grind)
  have s4 : Bd (b + n + 1) (p - q.1.1) := hp.sub ba.1
  have s5 : Bd ((2 * n + 1) + (2 * n + 1) + (b + n + 1)) (slp q.1 q.2 * (p - q.1.1)) := s3.mul s4
  exact ba.2.add s5
theorem KnC.inc {ks : List Kn} (h : KnC ks) : Inc ks := h.good.inc
theorem KnC.len {ks : List Kn} (h : KnC ks) : 2 ≤ ks.length := h.good.len
def Within (ks : List Kn) (n : Nat) (p : Rat) : Prop := loK ks ≤ p ∧ p ≤ hiK ks ∧ Bd n p
/-- a point at a part of few figures between two -/
def Part (l u p : Rat) : Prop := ∃ c d : Nat, 1 ≤ d ∧ d ≤ 1000 ∧ c ≤ d ∧ p = l + ((c : Int) : Rat) / ((d : Int) : Rat) * (u - l)
theorem part_q {c d : Nat} (d1 : 1 ≤ d) (hc : c ≤ d) : (0 : Rat) ≤ ((c : Int) : Rat) / ((d : Int) : Rat) ∧ ((c : Int) : Rat) / ((d : Int) : Rat) ≤ 1 := by
  have hd : (0 : Rat) < ((d : Int) : Rat) := by
    have : (0 : Int) < (d : Int) := by omega
    exact_mod_cast this
  constructor
  · have : (0 : Rat) ≤ ((c : Int) : Rat) := by
      have : (0 : Int) ≤ (c : Int) := by omega
      exact_mod_cast this
    rw [Rat.div_def]
    exact Rat.mul_nonneg this (Rat.le_of_lt (Rat.inv_pos.mpr hd))
  · have h1 := div_le (b := (d : Int)) (by omega) (show (c : Int) ≤ (d : Int) by omega)
    have h2 : ((d : Int) : Rat) / ((d : Int) : Rat) = 1 := by
      rw [Rat.div_def, Rat.mul_inv_cancel _ (by grind)]
    rw [h2] at h1
    exact h1
theorem Part.rng {l u p : Rat} (h : Part l u p) (hlu : l ≤ u) : l ≤ p ∧ p ≤ u := by
  obtain ⟨c, d, d1, _, hc, e⟩ := h
  obtain ⟨q0, q1⟩ := part_q d1 hc
  rw [e]
  generalize ((c : Int) : Rat) / ((d : Int) : Rat) = q at q0 q1
  have p1 := Rat.mul_nonneg q0 (show 0 ≤ u - l by grind)
  have p2 := Rat.mul_nonneg (show 0 ≤ 1 - q by grind) (show 0 ≤ u - l by grind)
  constructor <;> grind
/-! ### rising points, closed under a map -/
def insR (x : Rat) : List Rat → List Rat
  | [] => [x]
  | y :: l => if x < y then x :: y :: l else if x = y then y :: l else y :: insR x l
abbrev Ris (l : List Rat) : Prop := l.Pairwise fun a b => a < b
theorem mem_insR {x z : Rat} : ∀ l : List Rat, z ∈ insR x l ↔ z = x ∨ z ∈ l
  | [] => by simp [insR]
  | y :: l => by
    unfold insR
    split
    · simp
    · split
      · rename_i h
        subst h
        simp
      · simp only [List.mem_cons, mem_insR l]
        constructor
        · rintro (h | h | h)
          · exact .inr (.inl h)
          · exact .inl h
          · exact .inr (.inr h)
        · rintro (h | h | h)
          · exact .inr (.inl h)
          · exact .inl h
          · exact .inr (.inr h)
theorem ris_insR {x : Rat} : ∀ {l : List Rat}, Ris l → Ris (insR x l)
  | [], _ => by simp [insR]
  | y :: l, h => by
    have p := List.pairwise_cons.mp h
    unfold insR
    split
    · rename_i c
      refine List.pairwise_cons.mpr ⟨fun z hz => ?_, h⟩
      rcases List.mem_cons.mp hz with rfl | hz
      · exact c
      · have := p.1 z hz
        grind
    · split
      · exact h
      · refine List.pairwise_cons.mpr ⟨fun z hz => ?_, ris_insR p.2⟩
        rcases (mem_insR l).mp hz with rfl | hz
        · grind
        · exact p.1 z hz
theorem insR_len : ∀ (x : Rat) (l : List Rat), (insR x l).length ≤ l.length + 1
  | x, [] => by simp [insR]
  | x, y :: l => by
    have := insR_len x l
    unfold insR
    split
    · simp
    · split
      · simp
      · simp; omega
theorem any_mem {α : Type} [DecidableEq α] {g : α → PyData} (h : ∀ x y : α, PyData.eqv (g x) (g y) = decide (x = y)) (x : α) : ∀ xs : List α, ((xs.map g).any fun z => PyData.eqv z (g x)) = decide (x ∈ xs)
  | [] => by simp
  | y :: xs => by
    rw [List.map_cons, List.any_cons, any_mem h x xs, h, Bool.eq_iff_iff]
    simp only [Bool.or_eq_true, decide_eq_true_eq, List.mem_cons]
    constructor
    · rintro (h | h)
      · exact .inl h.symm
      · exact .inr h
    · rintro (h | h)
      · exact .inl h.symm
      · exact .inr h
theorem enc_in_ref {α : Type} [DecidableEq α] {n : Nat} {f : α → D} {g : α → PyData} (h : Enc n f g) {a : Addr} {m : Mu} {x : α} {xs : List α} {neg : Bool} {R : DK} (hm : m a = some (.lst (xs.map f))) (hR : R (.bl (xor neg (decide (x ∈ xs)))) m) (hn : n ≤ deep := by decide) : gIn neg (f x) (.ref a) m R := by
  rw [gIn_, h.py m deep x hn, optK_some, seqK_ref, hm, lstK_lst, pyAll_map (fun y => h.py m deep y hn) xs, optK_some, any_mem h.eqv]
  exact hR
/-- a comprehension of like things against [] -/
theorem enc_nil {α : Type} {n : Nat} {f : α → D} {g : α → PyData} (h : ∀ (m : Mu) (k : Nat) (x : α), n ≤ k → DL.py m k (f x) = some (g x)) {m : Mu} {xs : List α} {neg : Bool} {R : DK} (hR : R (.bl (xor neg (decide (xs = [])))) m) (hn : n ≤ deep := by decide) : gEqNN neg (xs.map f) [] m R := by
  rw [gEqNN_, pyAll_map (fun y => h m deep y hn) xs, optK_some]
  show R (.bl (xor neg (PyData.eqv (.list (xs.map g)) (.list [])))) m
  have e2 : PyData.eqv (.list (xs.map g)) (.list []) = decide (xs = []) := by
    cases xs <;> simp [PyData.eqv, PyData.eqvAll]
  rw [e2]
  exact hR
theorem setK_last {l : List D} {x y : D} {k : List D → Prop} (h : k (l ++ [y])) : setK (l ++ [x]) (-1) y k := by
  unfold setK ixN
  rw [if_neg (by omega)]
  first
    | (rw [if_pos (by simp; omega)]
       show k ((l ++ [x]).set _ y)
       have e : ((-1 : Int) + ((l ++ [x]).length : Int)).toNat = l.length := by simp; omega
       rw [e]
       simpa using h)
    | (simp; simpa using h)
/-- points of so many turns: within the stretch, of few bits -/
def PtT (ks : List Kn) (be V : Nat) (p : Rat) : Prop := loK ks ≤ p ∧ p ≤ hiK ks ∧ DF be V p
theorem PtT.val {ks : List Kn} {be V M : Nat} {p : Rat} (hk : KnC ks) (hb : 0 < be) (pf : PF1 be M ks) (h : PtT ks be V p) : PtT ks be (V * M) (valK ks p) := by
  have g := hk.good
  have r := g.val h.1 h.2.1
  obtain ⟨q, hq, _, _, e⟩ := g.piece h.1 h.2.1
  refine ⟨r.1, r.2, ?_⟩
  rw [e]
  exact DF.val hb (pairs_lt g.inc hq) (pf.pc q hq) h.2.2
theorem neNil_any {α : Type} {n : Nat} {f : α → D} {g : α → PyData} (h : ∀ (m : Mu) (k : Nat) (x : α), n ≤ k → DL.py m k (f x) = some (g x)) {a : Addr} {m : Mu} {xs : List α} {neg : Bool} {R : DK} (hm : m a = some (.lst (xs.map f))) (hR : R (.bl (xor neg (decide (xs = [])))) m) (hn : n + 1 ≤ deep := by decide) : gEqN neg (.ref a) [] m R := by
  have e : DL.py m deep (.ref a) = some (.list (xs.map g)) := by
    show DL.py m (11 + 1) (.ref a) = _
    unfold DL.py
    simp only [hm]
    rw [pyAll_map (fun x => h m 11 x (by have : deep = 12 := rfl; omega)) xs]
  unfold gEqN
  rw [e]
  show R (.bl (xor neg (PyData.eqv (.list (xs.map g)) (.list [])))) m
  have e2 : PyData.eqv (.list (xs.map g)) (.list []) = decide (xs = []) := by
    cases xs <;> simp [PyData.eqv, PyData.eqvAll]
  rw [e2]
  exact hR
theorem Ext.sub {a : Addr} {m m1 m2 : Mu} (h : Ext a m m1) (hs : Sub m1 m2) : Ext a m m2 := fun x o hx e => hs x o (h x o hx e)
def Lt (c : Nat) : Prop := c = 108 ∨ c = 99 ∨ c = 114
def Wd (l : List Nat) : Prop := ∀ c ∈ l, Lt c
/-! ### grids -/
structure Grid where
  f : Int
  l : Int
  n : Nat
  b : Nat
def atG (g : Grid) (k : Int) : Rat := ((g.f * g.n + (g.l - g.f) * k : Int) : Rat) / (((g.n : Int) * (g.b : Int) : Int) : Rat)
structure Grid.Ok (g : Grid) : Prop where
  f0 : -6 ≤ g.f ∧ g.f ≤ 6
  l0 : g.f < g.l ∧ g.l ≤ g.f + 9
  n0 : 2 ≤ g.n ∧ g.n ≤ 100
  b0 : 1 ≤ g.b ∧ g.b ≤ 28
/-- a map on a grid, by its places -/
def gkn (g : Grid) (zs : List (Int × Int)) : List Kn := zs.map fun z => (atG g z.1, atG g z.2)
structure GZ (g : Grid) (zs : List (Int × Int)) : Prop where
  up : (zs.map (·.1)).Pairwise (fun a b => a < b)
  rng : ∀ z ∈ zs, (0 ≤ z.1 ∧ z.1 ≤ (g.n : Int)) ∧ 0 ≤ z.2 ∧ z.2 ≤ (g.n : Int)
  h0 : (zs.map (·.1)).head? = some 0
  hL : (zs.map (·.1)).getLast? = some (g.n : Int)
  len : 2 ≤ zs.length

/-! ### two maps with the same values have the same fewest knots -/
def Mn : List Kn → Prop
  | a :: b :: c :: l => slp a b ≠ slp b c ∧ Mn (b :: c :: l)
  | _ => True
theorem mn_lk : ∀ (l : List Kn) (a : Kn), Inc (a :: l) → Mn (a :: lk a l)
  | [], a, _ => by rw [lk]; trivial
  | [z], a, _ => by rw [lk]; trivial
  | k :: n :: l, a, h => by
    rw [lk_cons]
    by_cases c : slp a k = slp k n
    · rw [if_pos c]; exact mn_lk (n :: l) a h.skip
    · rw [if_neg c]
      have ih := mn_lk (n :: l) k h.tail
      obtain ⟨n', r, e, e'⟩ := lk_head l k n h.tail
      rw [e] at ih ⊢
      exact ⟨by rw [e']; exact c, ih⟩
theorem val_head {b : Kn} {l : List Kn} (h : Inc (b :: l)) : valK (b :: l) b.1 = b.2 := by
  cases l with
  | nil => rw [valK]
  | cons c l => exact val_mem h (by simp) (by simp)
theorem mn_step {a b b' : Kn} {l l' : List Kn} (h : Inc (a :: b :: l)) (h' : Inc (a :: b' :: l')) (hm : Mn (a :: b :: l)) (hh : hiK (a :: b :: l) = hiK (a :: b' :: l'))
    (hv : ∀ t, a.1 ≤ t → t ≤ hiK (a :: b :: l) → valK (a :: b :: l) t = valK (a :: b' :: l') t) : ¬ b.1 < b'.1 := by
  intro hlt
  have hU := le_hiK h' (k := b') (by simp)
  rw [← hh] at hU
  have hb := h.lt
  have hb' := h'.lt
  match l, h, hm, hh, hv, hU with
  | [], h, hm, hh, hv, hU =>
    rw [hiK_cons, hiK] at hU
    grind
  | c :: l, h, hm, hh, hv, hU =>
    have hc := h.tail.lt
    have hcU := le_hiK h (k := c) (by simp)
    have e1 := hv b.1 (Rat.le_of_lt hb) (by grind)
    rw [valK_2 hb, valK_2 hb', if_neg (by grind), if_neg (by grind), ln_r hb] at e1
    obtain ⟨t, t1, t2, t3⟩ : ∃ t : Rat, b.1 < t ∧ t ≤ c.1 ∧ t ≤ b'.1 := by
      rcases rlt c.1 b'.1 with q | q
      · exact ⟨c.1, hc, Rat.le_refl, Rat.le_of_lt q⟩
      · exact ⟨b'.1, hlt, q, Rat.le_refl⟩
    have e2 := hv t (by grind) (by grind)
    rw [valK_2 hb, valK_2 hb', if_pos t1, if_neg (by grind), valK_2 hc, if_neg (by grind)] at e2
    have e3 := slp_mul hb
    refine hm.1 ?_
    unfold ln at e1 e2
    have f1 : (slp a b - slp a b') * (b.1 - a.1) = 0 := by grind
    have g1 : slp a b = slp a b' := by
      rcases Rat.mul_eq_zero.mp f1 with q | q
      · grind
      · grind
    have f2 : (slp b c - slp a b') * (t - b.1) = 0 := by grind
    have g2 : slp b c = slp a b' := by
      rcases Rat.mul_eq_zero.mp f2 with q | q
      · grind
      · grind
    rw [g1, g2]
theorem mn_uniq : ∀ (l l' : List Kn) (a : Kn), Inc (a :: l) → Inc (a :: l') → Mn (a :: l) → Mn (a :: l') → hiK (a :: l) = hiK (a :: l') → (∀ t, a.1 ≤ t → t ≤ hiK (a :: l) → valK (a :: l) t = valK (a :: l') t) → l = l'
  | [], [], _, _, _, _, _, _, _ => rfl
  | [], b :: l, a, h, h', _, _, hh, _ => by
    have := le_hiK h' (k := b) (by simp)
    rw [← hh, hiK] at this
    have := h'.lt
    grind
  | b :: l, [], a, h, h', _, _, hh, _ => by
    have := le_hiK h (k := b) (by simp)
    rw [hh, hiK] at this
    have := h.lt
    grind
  | b :: l, b' :: l', a, h, h', hm, hm', hh, hv => by
    have n1 := mn_step h h' hm hh hv
    have n2 := mn_step h' h hm' hh.symm (fun t t1 t2 => (hv t t1 (by rw [hh]; exact t2)).symm)
    have e1 : b.1 = b'.1 := by grind
    have hU := le_hiK h (k := b) (by simp)
    have e2 := hv b.1 (Rat.le_of_lt h.lt) hU
    rw [valK_2 h.lt, valK_2 h'.lt, if_neg (by grind), if_neg (by grind), ln_r h.lt, e1, ln_r h'.lt] at e2
    have e : b = b' := Prod.ext e1 e2
    subst e
    congr 1
    refine mn_uniq l l' b h.tail h'.tail ?_ ?_ (by rw [hiK_cons, hiK_cons] at hh; exact hh) (fun t t1 t2 => ?_)
    · cases l with
      | nil => trivial
      | cons c l => exact hm.2
    · cases l' with
      | nil => trivial
      | cons c l => exact hm'.2
    · rcases rlt b.1 t with q | q
      · have := hv t (by have := h.lt; grind) (by rw [hiK_cons]; exact t2)
        rw [valK_2 h.lt, valK_2 h'.lt, if_pos q, if_pos q] at this
        exact this
      · have : t = b.1 := by grind
        rw [this, val_head h.tail, val_head h'.tail]
theorem Good.val_lo {L U : Rat} {a : Kn} {l : List Kn} (h : Good L U (a :: l)) : valK (a :: l) L = a.2 := by
  have := h.lo
  rw [loK_cons] at this
  rw [← this, val_head h.inc]
theorem least_uniq {L U : Rat} {f g : List Kn} (hf : Good L U f) (hg : Good L U g) (hv : ∀ t, L ≤ t → t ≤ U → valK f t = valK g t) : leastK f = leastK g := by
  match f, g, hf, hg with
  | [], _, hf, _ => exact absurd rfl hf.ne
  | _, [], _, hg => exact absurd rfl hg.ne
  | a :: l, a' :: l', hf, hg =>
    have e : a = a' := by
      have e1 := hf.lo
      have e2 := hg.lo
      rw [loK_cons] at e1 e2
      have e3 := hv L Rat.le_refl (Rat.le_of_lt hf.lt)
      rw [hf.val_lo, hg.val_lo] at e3
      exact Prod.ext (by rw [e1, e2]) e3
    subst e
    have gf := hf.least
    have gg := hg.least
    show a :: lk a l = a :: lk a l'
    congr 1
    refine mn_uniq _ _ a gf.inc gg.inc (mn_lk l a hf.inc) (mn_lk l' a hg.inc) (by have := gf.hi; have := gg.hi; exact gf.hi.trans gg.hi.symm) (fun t t1 t2 => ?_)
    have e1 : a.1 = L := hf.lo
    have e2 : hiK (a :: lk a l) = U := gf.hi
    rw [val_lk l a hf.inc, val_lk l' a hg.inc]
    exact hv t (by grind) (by grind)
/-! ### turns: maps that rise or fall all along -/
def swp (k : Kn) : Kn := (k.2, k.1)
def swapK (ks : List Kn) : List Kn := ks.map swp
def backK (ks : List Kn) : List Kn := if hiK (swapK ks) < loK (swapK ks) then (swapK ks).reverse else swapK ks
def Up (ks : List Kn) : Prop := ks.Pairwise fun a b => a.2 < b.2
def Dn (ks : List Kn) : Prop := ks.Pairwise fun a b => b.2 < a.2
structure Turn (L U : Rat) (ks : List Kn) : Prop where
  good : Good L U ks
  kn : (Up ks ∧ loK (swapK ks) = L ∧ hiK (swapK ks) = U) ∨ (Dn ks ∧ loK (swapK ks) = U ∧ hiK (swapK ks) = L)
theorem loK_rev {l : List Kn} : loK l.reverse = hiK l := by
  by_cases h : l = []
  · subst h; rfl
  · obtain ⟨ys, z, rfl⟩ : ∃ ys z, l = ys ++ [z] := ⟨l.dropLast, l.getLast h, (List.dropLast_concat_getLast h).symm⟩
    rw [List.reverse_append]
    show z.1 = _
    rw [hiK_lastK (z := z) (by simp)]
theorem hiK_rev {l : List Kn} : hiK l.reverse = loK l := by
  have := loK_rev (l := l.reverse)
  rw [List.reverse_reverse] at this
  exact this.symm
theorem swap_swap (ks : List Kn) : swapK (swapK ks) = ks := by
  unfold swapK
  rw [List.map_map]
  exact List.map_id _
theorem swap_rev (ks : List Kn) : swapK ks.reverse = (swapK ks).reverse := by unfold swapK; rw [List.map_reverse]
theorem Turn.bk {L U : Rat} {ks : List Kn} (h : Turn L U ks) : Turn L U (backK ks) ∧ backK (backK ks) = ks := by
  have g := h.good
  have hlt := g.lt
  have lens : (swapK ks).length = ks.length := by unfold swapK; exact List.length_map _
  unfold backK
  rcases h.kn with ⟨u, e1, e2⟩ | ⟨u, e1, e2⟩
  · rw [e1, e2, if_neg (by grind), swap_swap, g.lo, g.hi, if_neg (by grind)]
    refine ⟨⟨⟨by rw [lens]; exact g.len, ?_, e1, e2, ?_⟩, .inl ⟨?_, by rw [swap_swap]; exact g.lo, by rw [swap_swap]; exact g.hi⟩⟩, rfl⟩
    · unfold Inc swapK
      rw [List.pairwise_map]
      exact u
    · intro k hk
      obtain ⟨z, hz, rfl⟩ := List.mem_map.mp hk
      exact g.le hz
    · unfold Up swapK
      rw [List.pairwise_map]
      exact g.inc
  · rw [e1, e2, if_pos hlt, swap_rev, swap_swap, loK_rev, hiK_rev, g.lo, g.hi, if_pos hlt, List.reverse_reverse]
    refine ⟨⟨⟨by rw [List.length_reverse, lens]; exact g.len, ?_, by rw [loK_rev]; exact e2, by rw [hiK_rev]; exact e1, ?_⟩, .inr ⟨?_, by rw [swap_rev, swap_swap, loK_rev]; exact g.hi, by rw [swap_rev, swap_swap, hiK_rev]; exact g.lo⟩⟩, rfl⟩
    · unfold Inc
      rw [List.pairwise_reverse]
      unfold swapK
      rw [List.pairwise_map]
      exact u
    · intro k hk
      rw [List.mem_reverse] at hk
      obtain ⟨z, hz, rfl⟩ := List.mem_map.mp hk
      exact g.le hz
    · unfold Dn
      rw [List.pairwise_reverse]
      unfold swapK
      rw [List.pairwise_map]
      exact g.inc
theorem pairs_map {α β : Type} (f : α → β) : ∀ l : List α, pairs (l.map f) = (pairs l).map fun p => (f p.1, f p.2)
  | [] => rfl
  | [a] => rfl
  | a :: b :: l => by
    have := pairs_map f (b :: l)
    simp only [List.map_cons, pairs_cons] at this ⊢
    rw [this]
theorem pairs_snoc {α : Type} : ∀ (l : List α) (a b : α), pairs (l ++ [a, b]) = pairs (l ++ [a]) ++ [(a, b)]
  | [], a, b => by simp [pairs]
  | [c], a, b => by simp [pairs]
  | c :: d :: l, a, b => by
    have := pairs_snoc (d :: l) a b
    simp only [List.cons_append, pairs_cons] at this ⊢
    rw [this]
theorem pairs_rev {α : Type} : ∀ {l : List α} {p : α × α}, p ∈ pairs l → (p.2, p.1) ∈ pairs l.reverse
  | [], p, h => by simp [pairs] at h
  | [a], p, h => by simp [pairs] at h
  | a :: b :: l, p, h => by
    rw [pairs_cons] at h
    have e : (a :: b :: l).reverse = l.reverse ++ [b, a] := by simp
    rw [e, pairs_snoc]
    rcases List.mem_cons.mp h with rfl | h
    · simp
    · have := pairs_rev h
      rw [List.reverse_cons] at this
      exact List.mem_append_left _ this
theorem pairs_rev' {α : Type} {l : List α} {p : α × α} (h : p ∈ pairs l.reverse) : (p.2, p.1) ∈ pairs l := by
  have := pairs_rev h
  rwa [List.reverse_reverse] at this
theorem pairs_rel {α : Type} {r : α → α → Prop} : ∀ {l : List α} {p : α × α}, l.Pairwise r → p ∈ pairs l → r p.1 p.2
  | [], p, _, h => by simp [pairs] at h
  | [a], p, _, h => by simp [pairs] at h
  | a :: b :: l, p, hi, h => by
    rw [pairs_cons] at h
    rcases List.mem_cons.mp h with rfl | h
    · exact (List.pairwise_cons.mp hi).1 _ (by simp)
    · exact pairs_rel (List.pairwise_cons.mp hi).2 h
theorem ln_comm {a b : Kn} {t : Rat} (h : a.1 < b.1) : ln b a t = ln a b t := by
  have e1 : b.1 - a.1 ≠ 0 := by grind
  have e2 := slp_mul h
  have e3 : slp b a = slp a b := by
    unfold slp
    have : a.1 - b.1 ≠ 0 := by grind
    grind
  unfold ln
  rw [e3]
  grind
theorem ln_swp {a b : Kn} {t : Rat} (h : a.1 < b.1) (h2 : a.2 ≠ b.2) : ln (swp a) (swp b) (ln a b t) = t := by
  have e2 := slp_mul h
  have e1 : b.2 - a.2 ≠ 0 := by grind
  have e4 : b.1 - a.1 ≠ 0 := by grind
  have e3 : slp (swp a) (swp b) * (b.2 - a.2) = b.1 - a.1 := by
    unfold slp swp
    show (b.1 - a.1) / (b.2 - a.2) * (b.2 - a.2) = _
    rw [Rat.div_mul_cancel e1]
  have e5 : slp (swp a) (swp b) * slp a b = 1 := by
    have : (slp (swp a) (swp b) * slp a b - 1) * (b.1 - a.1) = 0 := by grind
    rcases Rat.mul_eq_zero.mp this with q | q
    · grind
    · exact absurd q e4
  unfold ln
  show a.1 + slp (swp a) (swp b) * (a.2 + slp a b * (t - a.1) - a.2) = t
  grind
/-- back again -/
theorem Turn.val {L U : Rat} {ks : List Kn} (h : Turn L U ks) {t : Rat} (t1 : L ≤ t) (t2 : t ≤ U) : valK (backK ks) (valK ks t) = t := by
  have g := h.good
  have hb := h.bk.1.good
  obtain ⟨p, hp, p1, p2, e⟩ := g.piece t1 t2
  have plt := pairs_lt g.inc hp
  rw [e]
  have hw : 0 < p.2.1 - p.1.1 := by grind
  have sm := slp_mul plt
  have l1 := ln_l (a := p.1) (b := p.2)
  have l2 := ln_r plt
  rcases h.kn with ⟨u, e1, e2⟩ | ⟨u, e1, e2⟩
  · have q := pairs_rel u hp
    have s0 : 0 < slp p.1 p.2 := pos_of_mul hw (by grind)
    have ee : backK ks = swapK ks := by
      unfold backK
      rw [e1, e2, if_neg (by have := g.lt; grind)]
    rw [ee] at hb ⊢
    have hm : (swp p.1, swp p.2) ∈ pairs (swapK ks) := by
      unfold swapK
      rw [pairs_map]
      exact List.mem_map.mpr ⟨p, hp, rfl⟩
    have m1 := ln_mono (a := p.1) (b := p.2) (s := t) (t := p.1.1) s0
    have m2 := ln_mono (a := p.1) (b := p.2) (s := p.2.1) (t := t) s0
    rw [val_piece hb.inc hm (show p.1.2 ≤ _ by grind) (show _ ≤ p.2.2 by grind)]
    exact ln_swp plt (by grind)
  · have q := pairs_rel u hp
    have s0 : slp p.1 p.2 < 0 := neg_of_mul hw (by grind)
    have ee : backK ks = (swapK ks).reverse := by
      unfold backK
      rw [e1, e2, if_pos g.lt]
    rw [ee] at hb ⊢
    have hm : (swp p.2, swp p.1) ∈ pairs (swapK ks).reverse := by
      refine pairs_rev (p := (swp p.1, swp p.2)) ?_
      unfold swapK
      rw [pairs_map]
      exact List.mem_map.mpr ⟨p, hp, rfl⟩
    have m1 := ln_anti (a := p.1) (b := p.2) (s := p.1.1) (t := t) s0
    have m2 := ln_anti (a := p.1) (b := p.2) (s := t) (t := p.2.1) s0
    rw [val_piece hb.inc hm (show p.2.2 ≤ _ by grind) (show _ ≤ p.1.2 by grind)]
    exact (ln_comm (a := swp p.2) (b := swp p.1) (show p.2.2 < p.1.2 from q)).symm.trans (ln_swp plt (by grind))
/-- rising or falling at the knots: so all along -/
theorem mono_val {σ : Rat} : ∀ (l : List Kn) (a : Kn) {s t : Rat}, Inc (a :: l) → (∀ p ∈ pairs (a :: l), σ * p.1.2 < σ * p.2.2) → a.1 ≤ s → s < t → t ≤ hiK (a :: l) → σ * valK (a :: l) s < σ * valK (a :: l) t
  | [], a, s, t, _, _, s1, st, t2 => by
    rw [hiK] at t2
    grind
  | b :: l, a, s, t, hi, hm, s1, st, t2 => by
    have hlt := hi.lt
    have hw : 0 < b.1 - a.1 := by grind
    have hab : σ * a.2 < σ * b.2 := hm (a, b) (by rw [pairs_cons]; exact List.mem_cons_self)
    have hrest : ∀ p ∈ pairs (b :: l), σ * p.1.2 < σ * p.2.2 := fun p hp => hm p (by rw [pairs_cons]; exact List.mem_cons_of_mem _ hp)
    rw [hiK_cons] at t2
    have sm := slp_mul hlt
    have s0 : 0 < σ * slp a b := pos_of_mul hw (by rw [Rat.mul_assoc, sm]; clear hm hrest; grind)
    clear hm
    have key : ∀ x y : Rat, x ≤ y → σ * ln a b x ≤ σ * ln a b y := by
      intro x y hxy
      unfold ln
      have := Rat.mul_le_mul_of_nonneg_left (show 0 ≤ y - x by grind) (Rat.le_of_lt s0)
      grind
    have key' : ∀ x y : Rat, x < y → σ * ln a b x < σ * ln a b y := by
      intro x y hxy
      unfold ln
      have := Rat.mul_pos s0 (show 0 < y - x by grind)
      grind
    rw [valK_2 hlt, valK_2 hlt]
    rcases rlt b.1 t with c | c
    · rw [if_pos c]
      rcases rlt b.1 s with d | d
      · rw [if_pos d]
        exact mono_val l b hi.tail hrest (Rat.le_of_lt d) st t2
      · rw [if_neg (by grind)]
        have h1 := key s b.1 d
        rw [ln_r hlt] at h1
        have h2 := mono_val l b hi.tail hrest (s := b.1) Rat.le_refl c t2
        rw [val_head hi.tail] at h2
        grind
    · rw [if_neg (by grind), if_neg (by grind)]
      exact key' s t st
theorem Turn.mono {L U : Rat} {ks : List Kn} (h : Turn L U ks) : (valK ks L = L ∧ valK ks U = U ∧ ∀ s t, L ≤ s → s < t → t ≤ U → valK ks s < valK ks t) ∨ (valK ks L = U ∧ valK ks U = L ∧ ∀ s t, L ≤ s → s < t → t ≤ U → valK ks t < valK ks s) := by
  have g := h.good
  have ends : valK ks L = loK (swapK ks) ∧ valK ks U = hiK (swapK ks) := by
    constructor
    · match ks, g with
      | a :: l, g => exact g.val_lo
    · obtain ⟨z, ez, zU, _⟩ := g.last
      have : hiK (swapK ks) = z.2 := by
        unfold swapK
        rw [hiK_lastK (z := swp z) (by rw [List.getLast?_map, ez]; rfl)]
        rfl
      rw [this, ← zU, val_mem g.inc g.len (List.mem_of_getLast? ez)]
  rw [ends.1, ends.2]
  match ks, g, h.kn with
  | [], g, _ => exact absurd rfl g.ne
  | a :: l, g, .inl ⟨u, e1, e2⟩ =>
    refine .inl ⟨e1, e2, fun s t s1 st t2 => ?_⟩
    have := mono_val (σ := 1) l a (s := s) (t := t) g.inc (fun p hp => by have := pairs_rel u hp; grind) (by rw [g.head]; exact s1) st (by rw [g.hi]; exact t2)
    grind
  | a :: l, g, .inr ⟨u, e1, e2⟩ =>
    refine .inr ⟨e1, e2, fun s t s1 st t2 => ?_⟩
    have := mono_val (σ := -1) l a (s := s) (t := t) g.inc (fun p hp => by have := pairs_rel u hp; grind) (by rw [g.head]; exact s1) st (by rw [g.hi]; exact t2)
    grind
theorem Turn.of_mono {L U : Rat} {ks : List Kn} (g : Good L U ks) (h : (valK ks L = L ∧ valK ks U = U ∧ ∀ s t, L ≤ s → s < t → t ≤ U → valK ks s < valK ks t) ∨ (valK ks L = U ∧ valK ks U = L ∧ ∀ s t, L ≤ s → s < t → t ≤ U → valK ks t < valK ks s)) : Turn L U ks := by
  have ends : valK ks L = loK (swapK ks) ∧ valK ks U = hiK (swapK ks) := by
    constructor
    · match ks, g with
      | a :: l, g => exact g.val_lo
    · obtain ⟨z, ez, zU, _⟩ := g.last
      have : hiK (swapK ks) = z.2 := by
        unfold swapK
        rw [hiK_lastK (z := swp z) (by rw [List.getLast?_map, ez]; rfl)]
        rfl
      rw [this, ← zU, val_mem g.inc g.len (List.mem_of_getLast? ez)]
  rw [ends.1, ends.2] at h
  refine ⟨g, ?_⟩
  rcases h with ⟨e1, e2, m⟩ | ⟨e1, e2, m⟩
  · refine .inl ⟨?_, e1, e2⟩
    refine List.Pairwise.imp_of_mem (R := fun a b : Kn => a.1 < b.1) (fun {a b} ha hb hab => ?_) g.inc
    have := m a.1 b.1 (g.le ha).1 hab (g.le hb).2
    rw [val_mem g.inc g.len ha, val_mem g.inc g.len hb] at this
    exact this
  · refine .inr ⟨?_, e1, e2⟩
    refine List.Pairwise.imp_of_mem (R := fun a b : Kn => a.1 < b.1) (fun {a b} ha hb hab => ?_) g.inc
    have := m a.1 b.1 (g.le ha).1 hab (g.le hb).2
    rw [val_mem g.inc g.len ha, val_mem g.inc g.len hb] at this
    exact this
theorem Turn.least {L U : Rat} {ks : List Kn} (h : Turn L U ks) : Turn L U (leastK ks) := by
  have m := h.mono
  refine .of_mono h.good.least ?_
  simp only [val_least h.good.inc]
  exact m
def bkK (f : List Kn) : List Kn := leastK (backK f)
section
variable {L U : Rat} {f g ks tk : List Kn} {t : Rat}
end
/-! ### sizes, for two maps of the same kind -/
section
variable {L U : Rat} {one o ks : List Kn} {be N M : Nat}
theorem LF.swp {a b : Kn} (hb : 0 < be) (h2 : a.2 ≠ b.2) (h : LF be N a b) : LF be N (swp a) (swp b) := by
  obtain ⟨P, D, c, d0, dN, pN, e1, e2⟩ := h
  have P0 : P ≠ 0 := by
    intro hP
    subst hP
    have d0' := nat_ne d0
    have b0' := nat_ne hb
    have : (D : Rat) * be * (a.2 - b.2) = 0 := by grind
    rcases Rat.mul_eq_zero.mp this with q | q
    · rcases Rat.mul_eq_zero.mp q with q | q
      · exact absurd q d0'
      · exact absurd q b0'
    · grind
  rcases Int.lt_or_gt_of_ne P0 with c' | c'
  · have e : ((P.natAbs : Nat) : Rat) = - (P : Rat) := by
      have : ((P.natAbs : Nat) : Int) = - P := by omega
      rw [← Rat.intCast_natCast (P.natAbs), this, Rat.intCast_neg]
    refine ⟨-(D : Int), P.natAbs, c, by omega, pN, by omega, ?_, ?_⟩
    · show ((P.natAbs : Nat) : Rat) * be * a.1 = ((-(D : Int) : Int) : Rat) * be * a.2 + c
      rw [e, Rat.intCast_neg, Rat.intCast_natCast]
      grind
    · show ((P.natAbs : Nat) : Rat) * be * b.1 = ((-(D : Int) : Int) : Rat) * be * b.2 + c
      rw [e, Rat.intCast_neg, Rat.intCast_natCast]
      grind
  · have e : ((P.natAbs : Nat) : Rat) = (P : Rat) := by
      have : ((P.natAbs : Nat) : Int) = P := by omega
      rw [← Rat.intCast_natCast (P.natAbs), this]
    refine ⟨(D : Int), P.natAbs, -c, by omega, pN, by omega, ?_, ?_⟩
    · show ((P.natAbs : Nat) : Rat) * be * a.1 = (((D : Int) : Int) : Rat) * be * a.2 + ((-c : Int) : Rat)
      rw [e, Rat.intCast_neg, Rat.intCast_natCast]
      grind
    · show ((P.natAbs : Nat) : Rat) * be * b.1 = (((D : Int) : Int) : Rat) * be * b.2 + ((-c : Int) : Rat)
      rw [e, Rat.intCast_neg, Rat.intCast_natCast]
      grind
theorem LF.comm {a b : Kn} (h : LF be N a b) : LF be N b a := by
  obtain ⟨P, D, c, d0, dN, pN, e1, e2⟩ := h
  exact ⟨P, D, c, d0, dN, pN, e2, e1⟩
theorem Turn.pf (h : Turn L U ks) (p : PF be N ks) (hb : 0 < be) : PF be N (backK ks) := by
  have ne : ∀ w ∈ pairs ks, w.1.2 ≠ w.2.2 := by
    intro w hw
    rcases h.kn with ⟨u, _⟩ | ⟨u, _⟩
    · have := pairs_rel u hw
      grind
    · have := pairs_rel u hw
      grind
  have a : PF be N (swapK ks) := by
    refine ⟨fun k hk => ?_, fun w hw => ?_⟩
    · obtain ⟨z, hz, rfl⟩ := List.mem_map.mp hk
      exact ⟨(p.kn z hz).2, (p.kn z hz).1⟩
    · unfold swapK at hw
      rw [pairs_map] at hw
      obtain ⟨z, hz, rfl⟩ := List.mem_map.mp hw
      exact LF.swp hb (ne z hz) (p.pc z hz)
  unfold backK
  split
  · refine ⟨fun k hk => a.kn k (List.mem_reverse.mp hk), fun w hw => ?_⟩
    exact (a.pc _ (pairs_rev' hw)).comm
  · exact a
end
/-- the size of a map: knots, slopes and how many -/
structure Ev (L U : Rat) (be : Nat) : Prop where
  b0 : 0 < be
  b1 : be ≤ 2 ^ 14
  l : -((2 : Rat) ^ 21) ≤ L
  u : U ≤ (2 : Rat) ^ 21
structure Fm (L U : Rat) (be n c : Nat) (ks : List Kn) : Prop where
  good : Good L U ks
  pf : PF be (2 ^ n) ks
  len : ks.length + 1 ≤ 2 ^ c
section
variable {L U : Rat} {one o ks : List Kn} {be n c n' c' : Nat}
theorem Fm.least (h : Fm L U be n c ks) (e : Ev L U be) : Fm L U be n c (leastK ks) :=
  ⟨h.good.least, h.pf.least e.b0 h.good.inc, by have := leastK_le ks; have := h.len; omega⟩
theorem Fm.back (h : Fm L U be n c ks) (ht : Turn L U ks) (e : Ev L U be) : Fm L U be n c (backK ks) := by
  refine ⟨ht.bk.1.good, ht.pf h.pf e.b0, ?_⟩
  have : (backK ks).length = ks.length := by
    unfold backK swapK
    split
    · rw [List.length_reverse, List.length_map]
    · rw [List.length_map]
  rw [this]
  exact h.len
theorem Fm.bk (h : Fm L U be n c ks) (ht : Turn L U ks) (e : Ev L U be) : Fm L U be n c (bkK ks) := (h.back ht e).least e
end
section
variable {g : Grid} {zs : List (Int × Int)}
theorem Grid.Ok.pos (h : g.Ok) : 1 ≤ (g.n : Int) * (g.b : Int) := by
  have := Int.mul_pos (show (0 : Int) < g.n by have := h.n0; omega) (show (0 : Int) < g.b by have := h.b0; omega)
  omega
theorem atG_lt (h : g.Ok) {i j : Int} (hij : i < j) : atG g i < atG g j := by
  unfold atG
  refine div_lt (by have := h.pos; omega) ?_
  have := Int.mul_lt_mul_of_pos_left hij (show 0 < g.l - g.f by have := h.l0; omega)
  omega
theorem atG_le (h : g.Ok) {i j : Int} (hij : i ≤ j) : atG g i ≤ atG g j := by
  rcases Int.lt_or_eq_of_le hij with q | q
  · exact Rat.le_of_lt (atG_lt h q)
  · rw [q]; exact Rat.le_refl
theorem gkn_len : (gkn g zs).length = zs.length := by unfold gkn; exact List.length_map _
theorem GZ.ne (h : GZ g zs) : zs ≠ [] := by
  intro e
  have := h.len
  rw [e] at this
  simp at this
theorem GZ.good (hg : g.Ok) (h : GZ g zs) : Good (atG g 0) (atG g g.n) (gkn g zs) := by
  have ne := h.ne
  refine ⟨by rw [gkn_len]; exact h.len, ?_, ?_, ?_, ?_⟩
  · have := h.up
    rw [List.pairwise_map] at this
    unfold Inc gkn
    rw [List.pairwise_map]
    exact this.imp fun hab => atG_lt hg hab
  · have := h.h0
    cases zs with
    | nil => exact absurd rfl ne
    | cons z l =>
      simp at this
      show atG g z.1 = _
      rw [this]
  · have := h.hL
    rw [List.getLast?_map, List.getLast?_eq_some_getLast ne] at this
    simp at this
    rw [hiK_lastK (z := (atG g (zs.getLast ne).1, atG g (zs.getLast ne).2)) (by unfold gkn; rw [List.getLast?_map, List.getLast?_eq_some_getLast ne]; rfl), this]
  · intro k hk
    obtain ⟨z, hz, rfl⟩ := List.mem_map.mp hk
    have := (h.rng z hz).2
    exact ⟨atG_le hg this.1, atG_le hg this.2⟩
structure TZ (g : Grid) (zs : List (Int × Int)) : Prop where
  gz : GZ g zs
  tn : ((zs.map (·.2)).Pairwise (fun a b => a < b) ∧ (zs.map (·.2)).head? = some 0 ∧ (zs.map (·.2)).getLast? = some (g.n : Int)) ∨ ((zs.map (·.2)).Pairwise (fun a b => b < a) ∧ (zs.map (·.2)).head? = some (g.n : Int) ∧ (zs.map (·.2)).getLast? = some 0)
end
/-! ### what a map makes of a stretch -/
theorem mnmx_le : ∀ (l : List Rat) (s : Kn), s.1 ≤ s.2 → ((l.foldl mnmx s).1 ≤ s.1 ∧ s.2 ≤ (l.foldl mnmx s).2) ∧ ∀ x ∈ l, (l.foldl mnmx s).1 ≤ x ∧ x ≤ (l.foldl mnmx s).2
  | [], s, _ => ⟨⟨Rat.le_refl, Rat.le_refl⟩, by simp⟩
  | x :: l, s, h => by
    rw [List.foldl_cons]
    have hm : (mnmx s x).1 ≤ s.1 ∧ (mnmx s x).1 ≤ x ∧ s.2 ≤ (mnmx s x).2 ∧ x ≤ (mnmx s x).2 := by
      unfold mnmx
      dsimp only
      split <;> split <;> grind
    have ih := mnmx_le l (mnmx s x) (by grind)
    refine ⟨⟨by grind, by grind⟩, fun y hy => ?_⟩
    rcases List.mem_cons.mp hy with rfl | hy
    · constructor <;> grind
    · exact ih.2 y hy
theorem mnmx_mem : ∀ (l : List Rat) (s : Kn), ((l.foldl mnmx s).1 = s.1 ∨ (l.foldl mnmx s).1 ∈ l) ∧ ((l.foldl mnmx s).2 = s.2 ∨ (l.foldl mnmx s).2 ∈ l)
  | [], s => ⟨.inl rfl, .inl rfl⟩
  | x :: l, s => by
    rw [List.foldl_cons]
    have ih := mnmx_mem l (mnmx s x)
    have h1 : (mnmx s x).1 = x ∨ (mnmx s x).1 = s.1 := by
      unfold mnmx
      dsimp only
      split
      · exact .inl rfl
      · exact .inr rfl
    have h2 : (mnmx s x).2 = x ∨ (mnmx s x).2 = s.2 := by
      unfold mnmx
      dsimp only
      split
      · exact .inl rfl
      · exact .inr rfl
    constructor
    · rcases ih.1 with h | h
      · rcases h1 with e | e
        · right; rw [h, e]; exact List.mem_cons_self
        · left; rw [h, e]
      · right; exact List.mem_cons_of_mem _ h
    · rcases ih.2 with h | h
      · rcases h2 with e | e
        · right; rw [h, e]; exact List.mem_cons_self
        · left; rw [h, e]
      · right; exact List.mem_cons_of_mem _ h
/-- the values that count -/
def rangeL (ks : List Kn) (a b : Rat) : List Rat := valK ks a :: valK ks b :: insideK ks a b
theorem range_ok (ks : List Kn) (a b : Rat) : (rangeK ks a b).1 ∈ rangeL ks a b ∧ (rangeK ks a b).2 ∈ rangeL ks a b ∧ ∀ x ∈ rangeL ks a b, (rangeK ks a b).1 ≤ x ∧ x ≤ (rangeK ks a b).2 := by
  unfold rangeK rangeL
  have h1 := mnmx_le (insideK ks a b ++ [valK ks b]) (valK ks a, valK ks a) Rat.le_refl
  have h2 := mnmx_mem (insideK ks a b ++ [valK ks b]) (valK ks a, valK ks a)
  generalize (insideK ks a b ++ [valK ks b]).foldl mnmx (valK ks a, valK ks a) = s at h1 h2
  have m : ∀ x, x ∈ insideK ks a b ++ [valK ks b] ↔ x = valK ks b ∨ x ∈ insideK ks a b := by
    intro x
    rw [List.mem_append, List.mem_singleton]
    exact Or.comm
  refine ⟨?_, ?_, fun x hx => ?_⟩
  · rcases h2.1 with h | h
    · rw [h]; simp
    · rw [m] at h
      simp only [List.mem_cons]
      exact .inr h
  · rcases h2.2 with h | h
    · rw [h]; simp
    · rw [m] at h
      simp only [List.mem_cons]
      exact .inr h
  · simp only [List.mem_cons] at hx
    rcases hx with rfl | hx
    · exact h1.1
    · exact h1.2 x ((m x).mpr hx)
section
variable {L U : Rat} {ks : List Kn} {a b : Rat}
theorem rangeL_val (g : Good L U ks) (ha : L ≤ a) (hab : a ≤ b) (hb : b ≤ U) {x : Rat} (hx : x ∈ rangeL ks a b) : ∃ t, a ≤ t ∧ t ≤ b ∧ x = valK ks t := by
  unfold rangeL insideK at hx
  simp only [List.mem_cons, List.mem_map, List.mem_filter, Bool.and_eq_true, decide_eq_true_eq] at hx
  rcases hx with rfl | rfl | ⟨k, ⟨hk, k1, k2⟩, rfl⟩
  · exact ⟨a, Rat.le_refl, hab, rfl⟩
  · exact ⟨b, hab, Rat.le_refl, rfl⟩
  · exact ⟨k.1, Rat.le_of_lt k1, Rat.le_of_lt k2, (val_mem g.inc g.len hk).symm⟩
theorem range_rng (g : Good L U ks) (ha : L ≤ a) (hab : a ≤ b) (hb : b ≤ U) : L ≤ (rangeK ks a b).1 ∧ (rangeK ks a b).1 ≤ (rangeK ks a b).2 ∧ (rangeK ks a b).2 ≤ U := by
  obtain ⟨r1, r2, r3⟩ := range_ok ks a b
  obtain ⟨t, t1, t2, e⟩ := rangeL_val g ha hab hb r1
  obtain ⟨s, s1, s2, e'⟩ := rangeL_val g ha hab hb r2
  have v1 := g.val (t := t) (by grind) (by grind)
  have v2 := g.val (t := s) (by grind) (by grind)
  have := (r3 _ r1).2
  refine ⟨by grind, this, by grind⟩
end
/-- a stretch with ends of known fineness -/
structure Stz (L U : Rat) (be V : Nat) (w : Kn) : Prop where
  lo : L ≤ w.1
  le : w.1 ≤ w.2
  hi : w.2 ≤ U
  d1 : DF be V w.1
  d2 : DF be V w.2
theorem Stz.mono {L U : Rat} {be V W : Nat} {w : Kn} (h : Stz L U be V w) (hv : V ≤ W) : Stz L U be W w := ⟨h.lo, h.le, h.hi, h.d1.mono hv, h.d2.mono hv⟩
theorem Stz.range {L U : Rat} {be V N : Nat} {ks : List Kn} {w : Kn} (g : Good L U ks) (p : PF be N ks) (hb : 0 < be) (hV : 1 ≤ V) (h : Stz L U be V w) : Stz L U be (V * N) (rangeK ks w.1 w.2) := by
  obtain ⟨r1, r2, _⟩ := range_ok ks w.1 w.2
  have rr := range_rng g h.lo h.le h.hi
  have hv : ∀ t, L ≤ t → t ≤ U → DF be V t → DF be (V * N) (valK ks t) := by
    intro t t1 t2 ht
    obtain ⟨q, hq, _, _, e⟩ := g.piece t1 t2
    rw [e]
    exact DF.val hb (pairs_lt g.inc hq) (p.pc q hq) ht
  have key : ∀ x ∈ rangeL ks w.1 w.2, DF be (V * N) x := by
    intro x hx
    unfold rangeL insideK at hx
    simp only [List.mem_cons, List.mem_map, List.mem_filter, Bool.and_eq_true, decide_eq_true_eq] at hx
    rcases hx with rfl | rfl | ⟨k, ⟨hk, _, _⟩, rfl⟩
    · exact hv _ h.lo (by have := h.le; have := h.hi; grind) h.d1
    · exact hv _ (by have := h.le; have := h.lo; grind) h.hi h.d2
    · exact (p.kn k hk).2.mono (Nat.le_mul_of_pos_left N hV)
  exact ⟨rr.1, rr.2.1, rr.2.2, key _ r1, key _ r2⟩
/-! ### ways: stretch by stretch -/
inductive Way where
  | rnd (found : List Kn) (at_ : Nat)
  | opn (found : List Kn)
def Way.row : Way → List Kn
  | .rnd l _ => l
  | .opn l => l
def way (F : Kn → Kn) : Nat → List Kn → Kn → Way
  | 0, found, _ => .opn found
  | n + 1, found, b => if b ∈ found then .rnd found (found.idxOf b) else way F n (found ++ [b]) (F b)
/-! ### stretches within stretches -/
def itF (F : Kn → Kn) (w : Kn) : Nat → Kn
  | 0 => w
  | n + 1 => F (itF F w n)
structure Stp (F : Kn → Kn) (w : Kn) (n i : Nat) : Prop where
  le : i ≤ n
  ne : ∀ t, t < i → itF F w (t + 1) ≠ itF F w t
  st : i = n ∨ itF F w (i + 1) = itF F w i
def Nst (F : Kn → Kn) (w : Kn) : Prop := ∀ t, (itF F w t).1 ≤ (itF F w (t + 1)).1 ∧ (itF F w (t + 1)).2 ≤ (itF F w t).2
theorem Nst.le {F : Kn → Kn} {w : Kn} (h : Nst F w) (s : Nat) : ∀ d, (itF F w s).1 ≤ (itF F w (s + d)).1 ∧ (itF F w (s + d)).2 ≤ (itF F w s).2
  | 0 => ⟨Rat.le_refl, Rat.le_refl⟩
  | d + 1 => by
    have h1 := h.le s d
    have h2 := h (s + d)
    rw [show s + (d + 1) = s + d + 1 by omega]
    constructor <;> grind
theorem good_amid {L U p v : Rat} {l1 l2 : List Kn} {f s : Kn} (g : Good L U (l1 ++ f :: s :: l2)) (am : Amid f (p, v) s) (hv : L ≤ v ∧ v ≤ U) : Good L U (l1 ++ f :: (p, v) :: s :: l2) ∧ ∀ t, valK (l1 ++ f :: (p, v) :: s :: l2) t = valK (l1 ++ f :: s :: l2) t := by
  have hi := inc_amid am g.inc
  have hl := least_amid am g.inc
  refine ⟨⟨by simp; omega, hi, ?_, ?_, ?_⟩, fun t => by rw [← val_least hi, hl, val_least g.inc]⟩
  · have := g.lo
    cases l1 with
    | nil => exact this
    | cons a l => exact this
  · have h1 := hiK_least (l1 ++ f :: (p, v) :: s :: l2)
    have h2 := hiK_least (l1 ++ f :: s :: l2)
    rw [← h1, hl, h2]
    exact g.hi
  · intro k hk
    rcases List.mem_append.mp hk with hk | hk
    · exact g.rng k (by simp [hk])
    · rcases List.mem_cons.mp hk with rfl | hk
      · exact g.rng k (by simp)
      · rcases List.mem_cons.mp hk with rfl | hk
        · exact hv
        · exact g.rng k (by
            refine List.mem_append_right _ (List.mem_cons_of_mem _ hk))
/-! ### the deck of the tables -/
def TDeck (N : Nat) (m : Mu) (a b : Addr) : Prop := ∃ (cs : List Int) (k s : Int), m a = some (.lst [.ref b, .int k, .int s]) ∧ m b = some (.lst (cs.map D.int)) ∧ 1 ≤ cs.length ∧ cs.length ≤ 64 ∧ 0 ≤ k ∧ k ≤ N ∧ 0 ≤ s ∧ s < 2 ^ 31
section
variable {N : Nat} {m m' : Mu} {a b x : Addr} {o : O}
theorem TDeck.mono {K : Nat} (h : TDeck N m a b) (hk : N ≤ K) : TDeck K m a b := by
  obtain ⟨cs, k, s, h1, h2, h3, h4, h5, h6, h7⟩ := h
  exact ⟨cs, k, s, h1, h2, h3, h4, h5, by omega, h7⟩
end
structure Tab (n : Nat) (t : List (List Int)) : Prop where
  n1 : 1 ≤ n ∧ n ≤ 12
  len : t.length = n
  row : ∀ r ∈ t, r.length = n ∧ ∀ z ∈ r, 0 ≤ z ∧ z ≤ 9
/-! rows of a table being made: lists by address -/
def RowOk (n : Nat) (r : List Int) : Prop := r.length = n ∧ ∀ z ∈ r, 0 ≤ z ∧ z ≤ 9
structure Rws (a b rw : Addr) (n : Nat) (rs : List (Addr × List Int)) (M : Mu) : Prop where
  len : rs.length = n
  nd : (rs.map (·.1)).Nodup
  row : ∀ p ∈ rs, M p.1 = some (.lst (p.2.map D.int)) ∧ p.1 ≠ a ∧ p.1 ≠ b ∧ p.1 ≠ rw ∧ RowOk n p.2
  rwL : M rw = some (.lst (rs.map fun p => D.ref p.1))
  rwa : rw ≠ a ∧ rw ≠ b
section
variable {a b rw x c : Addr} {n : Nat} {rs : List (Addr × List Int)} {M M' : Mu} {o : O}
theorem map_fst_set {α β : Type} : ∀ (l : List (α × β)) (k : Nat) (p : α × β), (l.set k p).map (·.1) = (l.map (·.1)).set k p.1 := by
  intro l k p
  rw [List.map_set]
theorem nodup_set {α : Type} {l : List α} {k : Nat} {y : α} (h : l.Nodup) (hy : y ∉ l) : (l.set k y).Nodup := by
  rw [List.nodup_iff_pairwise_ne, List.pairwise_iff_getElem]
  intro i j hi hj hij
  rw [List.length_set] at hi hj
  rw [List.getElem_set, List.getElem_set]
  have hn := List.pairwise_iff_getElem.mp (List.nodup_iff_pairwise_ne.mp h) i j hi hj hij
  split
  · split
    · omega
    · intro e
      exact hy (e ▸ List.getElem_mem hj)
  · split
    · intro e
      exact hy (e ▸ List.getElem_mem hi)
    · exact hn
theorem mem_set_cases {α : Type} {l : List α} {k : Nat} {y z : α} (h : z ∈ l.set k y) : z = y ∨ z ∈ l := by
  rcases List.mem_or_eq_of_mem_set h with h | h
  · exact .inr h
  · exact .inl h
/-- another list in a row's place -/
theorem Rws.set (h : Rws a b rw n rs M) (k : Nat) {r : List Int} (hc : M c = some (.lst (r.map D.int))) (ca : c ≠ a) (cb : c ≠ b) (cw : c ≠ rw) (cn : c ∉ rs.map (·.1)) (hr : RowOk n r) : Rws a b rw n (rs.set k (c, r)) (mput M rw (.lst ((rs.set k (c, r)).map fun p => D.ref p.1))) := by
  refine ⟨by rw [List.length_set]; exact h.len, by rw [map_fst_set]; exact nodup_set h.nd cn, fun p hp => ?_, mput_same, h.rwa⟩
  rcases mem_set_cases hp with rfl | hp
  · exact ⟨by rw [mput_ne cw]; exact hc, ca, cb, cw, hr⟩
  · have := h.row p hp
    exact ⟨by rw [mput_ne this.2.2.2.1]; exact this.1, this.2⟩
end
def en (t : List (List Int)) (i j : Nat) : Int := ((t[i]?.getD [])[j]?).getD 0
theorem Tab.get {n : Nat} {t : List (List Int)} (h : Tab n t) {i : Nat} (hi : i < n) : ∃ r, t[i]? = some r ∧ r.length = n ∧ (∀ z ∈ r, 0 ≤ z ∧ z ≤ 9) ∧ r = (List.range n).map (en t i) := by
  have hl : i < t.length := by rw [h.len]; exact hi
  have hr := h.row t[i] (List.getElem_mem hl)
  refine ⟨t[i], List.getElem?_eq_getElem hl, hr.1, hr.2, ?_⟩
  refine List.ext_getElem (by simp [hr.1]) fun j h1 h2 => ?_
  simp only [List.getElem_map, List.getElem_range]
  unfold en
  rw [List.getElem?_eq_getElem hl, Option.getD_some, List.getElem?_eq_getElem h1, Option.getD_some]
/-- a square of lists -/
def Sq (n : Nat) (F : Nat → Nat → Int) (m : Mu) (f : Addr) : Prop := ∃ rs : List Addr, m f = some (.lst (rs.map D.ref)) ∧ rs.length = n ∧ ∀ (i : Nat) (hi : i < rs.length), m rs[i] = some (.lst (((List.range n).map (F i)).map D.int))
theorem Sq.sub {n : Nat} {F : Nat → Nat → Int} {m m' : Mu} {f : Addr} (h : Sq n F m f) (hs : Sub m m') : Sq n F m' f := by
  obtain ⟨rs, h1, h2, h3⟩ := h
  exact ⟨rs, hs _ _ h1, h2, fun i hi => hs _ _ (h3 i hi)⟩

/-! ### tables of any whole numbers, and the words that come -/
structure TabS (n : Nat) (t : List (List Int)) : Prop where
  n1 : 1 ≤ n ∧ n ≤ 20
  len : t.length = n
  row : ∀ r ∈ t, r.length = n
theorem TabS.get {n : Nat} {t : List (List Int)} (h : TabS n t) {i : Nat} (hi : i < n) : ∃ r, t[i]? = some r ∧ r.length = n ∧ r = (List.range n).map (en t i) := by
  have hl : i < t.length := by rw [h.len]; exact hi
  have hr := h.row t[i] (List.getElem_mem hl)
  refine ⟨t[i], List.getElem?_eq_getElem hl, hr, ?_⟩
  refine List.ext_getElem (by simp [hr]) fun j h1 h2 => ?_
  simp only [List.getElem_map, List.getElem_range]
  unfold en
  rw [List.getElem?_eq_getElem hl, Option.getD_some, List.getElem?_eq_getElem h1, Option.getD_some]
/-! ### tables of partings -/
def pt (ps : List Rat) (k : Nat) : Rat := ps[k]?.getD 0
theorem enc_ints : Enc 2 (fun r : List Int => D.tup (r.map D.int)) (fun r => PyData.tuple (r.map PyData.int)) := enc_list enc_int
theorem py_ref {α : Type} [DecidableEq α] {n : Nat} {f : α → D} {g : α → PyData} (h : Enc n f g) {a : Addr} {m : Mu} {xs : List α} (ha : m a = some (.lst (xs.map f))) {k : Nat} (hk : n ≤ k) : py m (k + 1) (.ref a) = some (.list (xs.map g)) := by
  have e := pyAll_map (p := py m k) (fun x => h.py m k x hk) xs
  rw [py]
  simp only [ha, e]
theorem eqv_lists {α : Type} [DecidableEq α] {n : Nat} {f : α → D} {g : α → PyData} (h : Enc n f g) (xs ys : List α) : PyData.eqv (.list (xs.map g)) (.list (ys.map g)) = decide (xs = ys) := by
  rw [PyData.eqv, eqvAll_map h.eqv]
/-- != of two lists -/
theorem enc_ref_ne {α : Type} [DecidableEq α] {n : Nat} {f : α → D} {g : α → PyData} (h : Enc n f g) {a b : Addr} {m : Mu} {xs ys : List α} {R : DK} (ha : m a = some (.lst (xs.map f))) (hb : m b = some (.lst (ys.map f))) (hR : R (.bl (!decide (xs = ys))) m) (hn : n ≤ 11 := by decide) : gNe (.ref a) (.ref b) m R :=
  gNe_of (py_ref h ha (k := 11) hn) (py_ref h hb (k := 11) hn) (by rw [eqv_lists h]; exact hR)
/-! ### the maps of the laws k11 .. k19, k48 .. k53: values among some points -/
structure MpA (ks : List Kn) : Prop where
  good : Good (loK ks) (hiK ks) ks
  bd : BdK 14 ks
theorem mpA_mk {ks : List Kn} {S : List Rat} {L U : Rat} (hr : Ris S) (h2 : 2 ≤ S.length) (e : ks.map (·.1) = S) (e0 : S.head? = some L) (eL : S.getLast? = some U) (hb : ∀ x ∈ S, Bd 14 x) (hv : ∀ k ∈ ks, Bd 14 k.2 ∧ L ≤ k.2 ∧ k.2 ≤ U) : MpA ks := by
  subst e
  have hinc : Inc ks := by
    unfold Ris at hr
    rw [List.pairwise_map] at hr
    exact hr
  have lo : loK ks = L := by
    cases ks with
    | nil => simp at e0
    | cons a l =>
      simp at e0
      exact e0
  have hi : hiK ks = U := by
    rw [List.getLast?_map] at eL
    cases h : ks.getLast? with
    | none => rw [h] at eL; simp at eL
    | some z =>
      rw [h] at eL
      simp at eL
      rw [hiK_lastK h, eL]
  refine ⟨⟨by simpa using h2, hinc, rfl, rfl, fun k hk => ?_⟩, fun k hk => ⟨hb _ (List.mem_map_of_mem hk), (hv k hk).1⟩⟩
  rw [lo, hi]
  exact (hv k hk).2
/-- what a new list hides -/
theorem fin_newA {R : DK} {m M : Mu} {c : Addr} {o : O} (s : Sub m M) (hc : M c = none) (hR : m c = none → R (.ref c) (mput m c o)) : fin R (.ref c) (mput M c o) := by
  have hc' : m c = none := by
    cases e : m c with
    | none => rfl
    | some o => rw [s c o e] at hc; cases hc
  refine ⟨mput m c o, fun z u hz => ?_, hR hc'⟩
  by_cases e : z = c
  · subst e; rw [mput_same] at hz ⊢; exact hz
  · rw [mput_ne e] at hz ⊢; exact s z u hz
/-! ### where what is straight between rows is nought -/
def metK (b e : Kn) (lv : Rat) : Rat := b.1 + (lv - b.2) / (e.2 - b.2) * (e.1 - b.1)
/-- of one piece -/
def pcK (b e : Kn) : List Kn := if b.2 = 0 ∧ e.2 = 0 then [(b.1, e.1)] else if sgQ b.2 0 * sgQ e.2 0 ≤ 0 then [(metK b e 0, metK b e 0)] else []
/-- put to the last one where they hang together -/
def putK (ps : List Kn) (p : Kn) : List Kn := match ps.getLast? with
  | some l => if p.1 ≤ l.2 then ps.dropLast ++ [(l.1, p.2)] else ps ++ [p]
  | none => [p]
def joinK (ps : List Kn) : List Kn := ps.foldl putK []
def pcsK : List Kn → List Kn
  | b :: e :: l => pcK b e ++ pcsK (e :: l)
  | _ => []
def noughtsK (rows : List Kn) : List Kn := joinK (pcsK rows)
theorem putK_nil {p : Kn} : putK [] p = [p] := rfl
theorem putK_snoc {ps : List Kn} {l p : Kn} : putK (ps ++ [l]) p = if p.1 ≤ l.2 then ps ++ [(l.1, p.2)] else ps ++ [l] ++ [p] := by
  unfold putK
  rw [List.getLast?_append, List.getLast?_singleton]
  simp
theorem putK_len (ps : List Kn) (p : Kn) : (putK ps p).length ≤ ps.length + 1 := by
  rcases List.eq_nil_or_concat ps with rfl | ⟨qs, l, e⟩
  · simp [putK_nil]
  · have e' : ps = qs ++ [l] := by simpa using e
    subst e'
    rw [putK_snoc]
    split <;> simp
theorem fold_len : ∀ (qs ps : List Kn), (qs.foldl putK ps).length ≤ ps.length + qs.length
  | [], ps => by simp
  | q :: qs, ps => by
    have h1 := fold_len qs (putK ps q)
    have h2 := putK_len ps q
    simp only [List.foldl_cons, List.length_cons]
    omega
theorem pcK_len (b e : Kn) : (pcK b e).length ≤ 1 := by
  unfold pcK
  split
  · simp
  · split <;> simp
theorem sg0_neg {x : Rat} (h : x < 0) : sgQ x 0 = -1 := by unfold sgQ; rw [if_neg (by grind), if_pos h]
theorem sg0_pos {x : Rat} (h : 0 < x) : sgQ x 0 = 1 := by unfold sgQ; rw [if_pos h]
theorem sg0_zero : sgQ 0 0 = 0 := by unfold sgQ; rw [if_neg (by grind), if_neg (by grind)]
theorem met_ln {b e c : Kn} (h : b.1 < e.1) (hc : c.2 = ln b e c.1) (hs : b.2 ≠ e.2) : metK b e c.2 = c.1 := by
  unfold metK
  have h1 : e.2 - b.2 ≠ 0 := by grind
  have h2 : e.1 - b.1 ≠ 0 := by grind
  rw [hc]
  unfold ln slp
  have e1 : (b.2 + (e.2 - b.2) / (e.1 - b.1) * (c.1 - b.1) - b.2) / (e.2 - b.2) * (e.1 - b.1) = c.1 - b.1 := by
    have : b.2 + (e.2 - b.2) / (e.1 - b.1) * (c.1 - b.1) - b.2 = (e.2 - b.2) / (e.1 - b.1) * (c.1 - b.1) := by grind
    rw [this]
    have k1 : (e.2 - b.2) / (e.1 - b.1) * (e.1 - b.1) = e.2 - b.2 := Rat.div_mul_cancel h2
    have k2 : ((e.2 - b.2) / (e.1 - b.1) * (c.1 - b.1)) / (e.2 - b.2) * (e.2 - b.2) = (e.2 - b.2) / (e.1 - b.1) * (c.1 - b.1) := Rat.div_mul_cancel h1
    grind
  grind
theorem pcK_zero {b e : Kn} (hb : b.2 = 0) (he : e.2 = 0) : pcK b e = [(b.1, e.1)] := by unfold pcK; rw [if_pos ⟨hb, he⟩]
/-- what stays -/
def stayR (ks : List Kn) : List Kn := ks.map fun k => (k.1, k.2 - k.1)
theorem putK_bd {ps : List Kn} {p : Kn} {c : Nat} (h : BdK c ps) (hp : Bd c p.1 ∧ Bd c p.2) : BdK c (putK ps p) := by
  rcases List.eq_nil_or_concat ps with rfl | ⟨qs, l, e⟩
  · rw [putK_nil]
    intro k hk
    simp at hk
    rw [hk]
    exact hp
  · have e' : ps = qs ++ [l] := by simpa using e
    subst e'
    rw [putK_snoc]
    split
    · intro k hk
      rcases List.mem_append.mp hk with q | q
      · exact h k (by simp [q])
      · simp at q
        rw [q]
        exact ⟨(h l (by simp)).1, hp.2⟩
    · intro k hk
      rcases List.mem_append.mp hk with q | q
      · exact h k q
      · simp at q
        rw [q]
        exact hp
theorem fold_bd {c : Nat} : ∀ (qs : List Kn) {ps : List Kn}, BdK c ps → BdK c qs → BdK c (qs.foldl putK ps)
  | [], ps, h, _ => h
  | q :: qs, ps, h, hq => fold_bd qs (putK_bd h (hq q (by simp))) fun k hk => hq k (List.mem_cons_of_mem _ hk)
theorem pcsK_len : ∀ rows : List Kn, (pcsK rows).length ≤ rows.length
  | [] => by simp [pcsK]
  | [a] => by simp [pcsK]
  | a :: b :: l => by
    have h1 := pcsK_len (b :: l)
    have h2 := pcK_len a b
    rw [pcsK, List.length_append]
    simp only [List.length_cons] at h1 ⊢
    omega
theorem noughts_len (rows : List Kn) : (noughtsK rows).length ≤ rows.length := by
  have h1 := fold_len (pcsK rows) []
  have h2 := pcsK_len rows
  unfold noughtsK joinK
  simp at h1
  omega
theorem pcK_ne {b e : Kn} (h : ¬ (b.2 = 0 ∧ e.2 = 0)) (hs : sgQ b.2 0 * sgQ e.2 0 ≤ 0) : b.2 ≠ e.2 := by
  intro e'
  rw [← e'] at hs
  by_cases z : b.2 = 0
  · exact h ⟨z, by rw [← e']; exact z⟩
  · rcases rlt b.2 0 with q | q
    · rw [sg0_neg q] at hs; omega
    · rw [sg0_pos (by grind)] at hs; omega
theorem sg_bool {p q : Rat} : sgQ p q = -1 ∨ sgQ p q = 0 ∨ sgQ p q = 1 := by
  unfold sgQ
  split
  · exact .inr (.inr rfl)
  · split
    · exact .inl rfl
    · exact .inr (.inl rfl)
theorem pcs_flat : ∀ rows : List Kn, pcsK rows = (pairs rows).flatMap fun p => pcK p.1 p.2
  | [] => by rw [pcsK, pairs]; rfl; all_goals (intros; simp_all)
  | [a] => by rw [pcsK, pairs]; rfl; all_goals (intros; simp_all)
  | a :: b :: l => by rw [pcsK, pairs_cons, List.flatMap_cons, pcs_flat (b :: l)]
theorem fr_zero : D.tup [D.int 0, D.int 1] = fr 0 := rfl
/-! ### rows of stretches as sets of points -/
def InU (ps : List Kn) (x : Rat) : Prop := ∃ p ∈ ps, p.1 ≤ x ∧ x ≤ p.2
/-- each a stretch, none hangs together with the next -/
def Canon (ps : List Kn) : Prop := (∀ p ∈ ps, p.1 ≤ p.2) ∧ ps.Pairwise fun p q => p.2 < q.1
theorem inU_nil {x : Rat} : ¬ InU [] x := by rintro ⟨p, hp, _⟩; simp at hp
theorem inU_cons {p : Kn} {ps : List Kn} {x : Rat} : InU (p :: ps) x ↔ (p.1 ≤ x ∧ x ≤ p.2) ∨ InU ps x := by
  constructor
  · rintro ⟨q, hq, h⟩
    rcases List.mem_cons.mp hq with e | e
    · rw [e] at h; exact .inl h
    · exact .inr ⟨q, e, h⟩
  · rintro (h | ⟨q, hq, h⟩)
    · exact ⟨p, List.mem_cons_self, h⟩
    · exact ⟨q, List.mem_cons_of_mem _ hq, h⟩
theorem inU_append {ps qs : List Kn} {x : Rat} : InU (ps ++ qs) x ↔ InU ps x ∨ InU qs x := by
  constructor
  · rintro ⟨q, hq, h⟩
    rcases List.mem_append.mp hq with e | e
    · exact .inl ⟨q, e, h⟩
    · exact .inr ⟨q, e, h⟩
  · rintro (⟨q, hq, h⟩ | ⟨q, hq, h⟩)
    · exact ⟨q, List.mem_append_left _ hq, h⟩
    · exact ⟨q, List.mem_append_right _ hq, h⟩
theorem Canon.tail {p : Kn} {ps : List Kn} (h : Canon (p :: ps)) : Canon ps := ⟨fun q hq => h.1 q (List.mem_cons_of_mem _ hq), (List.pairwise_cons.mp h.2).2⟩
theorem Canon.above {p : Kn} {ps : List Kn} (h : Canon (p :: ps)) {x : Rat} (hx : InU ps x) : p.2 < x := by
  obtain ⟨q, hq, h1, _⟩ := hx
  have := (List.pairwise_cons.mp h.2).1 q hq
  grind
theorem Canon.head_le {p : Kn} {ps : List Kn} (h : Canon (p :: ps)) {x : Rat} (hx : InU (p :: ps) x) : p.1 ≤ x := by
  rcases inU_cons.mp hx with h1 | h1
  · exact h1.1
  · have := h.above h1
    have := h.1 p List.mem_cons_self
    grind
/-- a point just behind a stretch that is none of the others' -/
theorem Canon.gap {p : Kn} {ps : List Kn} (h : Canon (p :: ps)) {u : Rat} (hu : p.2 < u) : ∃ x, p.2 < x ∧ x ≤ u ∧ ¬ InU (p :: ps) x := by
  have key : ∃ x, p.2 < x ∧ x ≤ u ∧ ¬ InU ps x := by
    cases ps with
    | nil => exact ⟨u, hu, Rat.le_refl, inU_nil⟩
    | cons q ps =>
      have hq := (List.pairwise_cons.mp h.2).1 q List.mem_cons_self
      rcases rlt u q.1 with c | c
      · exact ⟨u, hu, Rat.le_refl, fun hx => by have := h.tail.head_le hx; grind⟩
      · refine ⟨(p.2 + q.1) / 2, by grind, by grind, fun hx => ?_⟩
        have := h.tail.head_le hx
        grind
  obtain ⟨x, h1, h2, h3⟩ := key
  refine ⟨x, h1, h2, fun hx => ?_⟩
  rcases inU_cons.mp hx with c | c
  · grind
  · exact h3 c
theorem canon_uniq : ∀ {ps qs : List Kn}, Canon ps → Canon qs → (∀ x, InU ps x ↔ InU qs x) → ps = qs
  | [], [], _, _, _ => rfl
  | [], q :: qs, _, h2, h => absurd ((h q.1).mpr (inU_cons.mpr (.inl ⟨Rat.le_refl, h2.1 q List.mem_cons_self⟩))) inU_nil
  | p :: ps, [], h1, _, h => absurd ((h p.1).mp (inU_cons.mpr (.inl ⟨Rat.le_refl, h1.1 p List.mem_cons_self⟩))) inU_nil
  | p :: ps, q :: qs, h1, h2, h => by
    have p0 := h1.1 p List.mem_cons_self
    have q0 := h2.1 q List.mem_cons_self
    have a1 := h2.head_le ((h p.1).mp (inU_cons.mpr (.inl ⟨Rat.le_refl, p0⟩)))
    have a2 := h1.head_le ((h q.1).mpr (inU_cons.mpr (.inl ⟨Rat.le_refl, q0⟩)))
    have e1 : p.1 = q.1 := by grind
    have e2 : p.2 = q.2 := by
      rcases rlt p.2 q.2 with c | c
      · obtain ⟨x, x1, x2, x3⟩ := h1.gap c
        exact absurd ((h x).mpr (inU_cons.mpr (.inl ⟨by grind, x2⟩))) x3
      · rcases rlt q.2 p.2 with d | d
        · obtain ⟨x, x1, x2, x3⟩ := h2.gap d
          exact absurd ((h x).mp (inU_cons.mpr (.inl ⟨by grind, x2⟩))) x3
        · grind
    have ht : ps = qs := by
      refine canon_uniq h1.tail h2.tail fun x => ?_
      constructor
      · intro hx
        have := h1.above hx
        rcases inU_cons.mp ((h x).mp (inU_cons.mpr (.inr hx))) with c | c
        · grind
        · exact c
      · intro hx
        have := h2.above hx
        rcases inU_cons.mp ((h x).mpr (inU_cons.mpr (.inr hx))) with c | c
        · grind
        · exact c
    rw [ht, show p = q from Prod.ext e1 e2]
/-- stretches in order: ends and begins never fall -/
def Mono (qs : List Kn) : Prop := (∀ q ∈ qs, q.1 ≤ q.2) ∧ qs.Pairwise fun p q => p.1 ≤ q.1 ∧ p.2 ≤ q.2
theorem canon_snoc {ps : List Kn} {l : Kn} : Canon (ps ++ [l]) ↔ Canon ps ∧ l.1 ≤ l.2 ∧ ∀ p ∈ ps, p.2 < l.1 := by
  unfold Canon
  rw [List.pairwise_append]
  constructor
  · rintro ⟨h1, h2, _, h4⟩
    exact ⟨⟨fun p hp => h1 p (List.mem_append_left _ hp), h2⟩, h1 l (by simp), fun p hp => h4 p hp l (by simp)⟩
  · rintro ⟨⟨h1, h2⟩, h3, h4⟩
    refine ⟨fun p hp => ?_, h2, List.pairwise_singleton _ _, fun p hp q hq => ?_⟩
    · rcases List.mem_append.mp hp with e | e
      · exact h1 p e
      · simp at e; rw [e]; exact h3
    · simp at hq; rw [hq]; exact h4 p hp
theorem put_canon {acc : List Kn} {q : Kn} (h : Canon acc) (hq : q.1 ≤ q.2) (hl : ∀ l, acc.getLast? = some l → l.1 ≤ q.1 ∧ l.2 ≤ q.2) : Canon (putK acc q) ∧ (∀ x, InU (putK acc q) x ↔ InU acc x ∨ (q.1 ≤ x ∧ x ≤ q.2)) ∧ ∃ l, (putK acc q).getLast? = some l ∧ l.1 ≤ q.1 ∧ l.2 = q.2 := by
  rcases List.eq_nil_or_concat acc with rfl | ⟨ps, l, e⟩
  · rw [putK_nil]
    refine ⟨⟨fun p hp => by simp at hp; rw [hp]; exact hq, List.pairwise_singleton _ _⟩, fun x => ?_, q, rfl, Rat.le_refl, rfl⟩
    rw [inU_cons]
    constructor
    · rintro (h | h)
      · exact .inr h
      · exact absurd h inU_nil
    · rintro (h | h)
      · exact absurd h inU_nil
      · exact .inl h
  · have e' : acc = ps ++ [l] := by simpa using e
    subst e'
    obtain ⟨c1, c2, c3⟩ := canon_snoc.mp h
    obtain ⟨l1, l2⟩ := hl l (by simp)
    rw [putK_snoc]
    by_cases c : q.1 ≤ l.2
    · rw [if_pos c]
      refine ⟨canon_snoc.mpr ⟨c1, by show l.1 ≤ q.2; grind, c3⟩, fun x => ?_, (l.1, q.2), by simp, l1, rfl⟩
      rw [inU_append, inU_append, inU_cons, inU_cons]
      have n0 := @inU_nil x
      simp only
      constructor
      · rintro (h | h | h)
        · exact .inl (.inl h)
        · rcases rlt x l.2 with d | d
          · exact .inl (.inr (.inl ⟨h.1, Rat.le_of_lt d⟩))
          · exact .inr ⟨by grind, h.2⟩
        · exact absurd h n0
      · rintro ((h | h | h) | h)
        · exact .inl h
        · exact .inr (.inl ⟨h.1, by grind⟩)
        · exact absurd h n0
        · exact .inr (.inl ⟨by grind, h.2⟩)
    · rw [if_neg c]
      refine ⟨canon_snoc.mpr ⟨h, hq, fun p hp => ?_⟩, fun x => ?_, q, by simp, Rat.le_refl, rfl⟩
      · rcases List.mem_append.mp hp with e | e
        · have := c3 p e
          grind
        · simp at e; rw [e]; grind
      · rw [inU_append, inU_cons]
        have n0 := @inU_nil x
        constructor
        · rintro (h | h | h)
          · exact .inl h
          · exact .inr h
          · exact absurd h n0
        · rintro (h | h)
          · exact .inl h
          · exact .inr (.inl h)
theorem fold_canon : ∀ (qs acc : List Kn), Canon acc → Mono qs → (∀ l q, acc.getLast? = some l → q ∈ qs → l.1 ≤ q.1 ∧ l.2 ≤ q.2) → Canon (qs.foldl putK acc) ∧ ∀ x, InU (qs.foldl putK acc) x ↔ InU acc x ∨ InU qs x
  | [], acc, h, _, _ => ⟨h, fun x => ⟨.inl, fun h => h.elim id fun h => absurd h inU_nil⟩⟩
  | q :: qs, acc, h, hm, hl => by
    obtain ⟨c1, c2, l, el, l1, l2⟩ := put_canon h (hm.1 q (by simp)) (fun l e => hl l q e (by simp))
    have hm' := List.pairwise_cons.mp hm.2
    obtain ⟨d1, d2⟩ := fold_canon qs (putK acc q) c1 ⟨fun p hp => hm.1 p (List.mem_cons_of_mem _ hp), hm'.2⟩ (fun l' p e hp => by
      rw [el] at e
      cases e
      have := hm'.1 p hp
      exact ⟨by grind, by grind⟩)
    refine ⟨d1, fun x => ?_⟩
    rw [List.foldl_cons, d2, c2, inU_cons]
    constructor
    · rintro ((h | h) | h)
      · exact .inl h
      · exact .inr (.inl h)
      · exact .inr (.inr h)
    · rintro (h | h | h)
      · exact .inl (.inl h)
      · exact .inl (.inr h)
      · exact .inr h
theorem join_canon {qs : List Kn} (h : Mono qs) : Canon (joinK qs) ∧ ∀ x, InU (joinK qs) x ↔ InU qs x := by
  obtain ⟨h1, h2⟩ := fold_canon qs [] ⟨fun p hp => by simp at hp, .nil⟩ h (fun l q e => by simp at e)
  refine ⟨h1, fun x => ?_⟩
  unfold joinK
  rw [h2 x]
  constructor
  · rintro (h | h)
    · exact absurd h inU_nil
    · exact h
  · exact .inr
/-! ### the noughts of what is straight between rows -/
theorem ln_hit {b e : Kn} {v : Rat} (hlt : b.1 < e.1) (hne : b.2 ≠ e.2) (h : (b.2 ≤ v ∧ v ≤ e.2) ∨ (e.2 ≤ v ∧ v ≤ b.2)) : ∃ u, b.1 ≤ u ∧ u ≤ e.1 ∧ ln b e u = v := by
  have hs : slp b e ≠ 0 := by
    intro z
    have := ln_r (a := b) (b := e) hlt
    unfold ln at this
    rw [z] at this
    grind
  have e1 : ln b e (b.1 + (v - b.2) / slp b e) = v := by
    unfold ln
    have : slp b e * ((v - b.2) / slp b e) = v - b.2 := by rw [Rat.mul_comm, Rat.div_mul_cancel hs]
    grind
  have l0 : ln b e b.1 = b.2 := ln_l
  have r0 : ln b e e.1 = e.2 := ln_r hlt
  generalize b.1 + (v - b.2) / slp b e = u at e1
  refine ⟨u, ?_, ?_, e1⟩
  · rcases rlt u b.1 with q | q
    · rcases rlt 0 (slp b e) with c | c
      · have m1 := (ln_mono (a := b) (b := e) c).mpr q
        have m2 := (ln_mono (a := b) (b := e) c).mpr hlt
        grind
      · have c' : slp b e < 0 := by grind
        have m1 := (ln_anti (a := b) (b := e) c').mpr q
        have m2 := (ln_anti (a := b) (b := e) c').mpr hlt
        grind
    · exact q
  · rcases rlt e.1 u with q | q
    · rcases rlt 0 (slp b e) with c | c
      · have m1 := (ln_mono (a := b) (b := e) c).mpr q
        have m2 := (ln_mono (a := b) (b := e) c).mpr hlt
        grind
      · have c' : slp b e < 0 := by grind
        have m1 := (ln_anti (a := b) (b := e) c').mpr q
        have m2 := (ln_anti (a := b) (b := e) c').mpr hlt
        grind
    · exact q
theorem ln_same {b e : Kn} (hlt : b.1 < e.1) (hne : b.2 ≠ e.2) {s t : Rat} (h : ln b e s = ln b e t) : s = t := by
  refine ln_inj (a := b) (b := e) ?_ h
  intro z
  have := ln_r (a := b) (b := e) hlt
  unfold ln at this
  rw [z] at this
  grind
theorem met_at_hit {b e : Kn} {u v : Rat} (hlt : b.1 < e.1) (hne : b.2 ≠ e.2) (h : ln b e u = v) : metK b e v = u := met_ln (c := (u, v)) hlt h.symm hne
/-- one piece -/
theorem pcK_in {b e : Kn} (hlt : b.1 < e.1) : (∀ p ∈ pcK b e, b.1 ≤ p.1 ∧ p.1 ≤ p.2 ∧ p.2 ≤ e.1) ∧ ∀ x, InU (pcK b e) x ↔ b.1 ≤ x ∧ x ≤ e.1 ∧ ln b e x = 0 := by
  by_cases h0 : b.2 = 0 ∧ e.2 = 0
  · rw [pcK_zero h0.1 h0.2]
    have z : ∀ x, ln b e x = 0 := by
      intro x
      unfold ln slp
      rw [h0.1, h0.2]
      grind
    refine ⟨fun p hp => ?_, fun x => ?_⟩
    · simp at hp
      rw [hp]
      exact ⟨Rat.le_refl, Rat.le_of_lt hlt, Rat.le_refl⟩
    · rw [inU_cons]
      constructor
      · rintro (h | h)
        · exact ⟨h.1, h.2, z x⟩
        · exact absurd h inU_nil
      · exact fun h => .inl ⟨h.1, h.2.1⟩
  · by_cases hs : sgQ b.2 0 * sgQ e.2 0 ≤ 0
    · have hne := pcK_ne h0 hs
      have ep : pcK b e = [(metK b e 0, metK b e 0)] := by unfold pcK; rw [if_neg h0, if_pos hs]
      have hsg : (b.2 ≤ 0 ∧ 0 ≤ e.2) ∨ (e.2 ≤ 0 ∧ 0 ≤ b.2) := by
        rcases rlt b.2 0 with c | c
        · rcases rlt e.2 0 with d | d
          · rw [sg0_neg c, sg0_neg d] at hs; omega
          · exact .inl ⟨Rat.le_of_lt c, d⟩
        · rcases rlt 0 e.2 with d | d
          · rcases rlt 0 b.2 with f | f
            · rw [sg0_pos f, sg0_pos d] at hs; omega
            · exact .inl ⟨f, Rat.le_of_lt d⟩
          · exact .inr ⟨d, c⟩
      obtain ⟨u, u1, u2, eu⟩ := ln_hit hlt hne hsg
      rw [ep, met_at_hit hlt hne eu]
      refine ⟨fun p hp => ?_, fun x => ?_⟩
      · simp at hp
        rw [hp]
        exact ⟨u1, Rat.le_refl, u2⟩
      · rw [inU_cons]
        constructor
        · rintro (h | h)
          · have : x = u := by
              simp only at h
              grind
            rw [this]
            exact ⟨u1, u2, eu⟩
          · exact absurd h inU_nil
        · rintro ⟨_, _, h⟩
          have : x = u := ln_same hlt hne (by rw [h, eu])
          rw [this]
          exact .inl ⟨Rat.le_refl, Rat.le_refl⟩
    · have ep : pcK b e = [] := by unfold pcK; rw [if_neg h0, if_neg hs]
      rw [ep]
      refine ⟨fun p hp => by simp at hp, fun x => ⟨fun h => absurd h inU_nil, ?_⟩⟩
      rintro ⟨x1, x2, hx⟩
      exfalso
      have hsame : (0 < b.2 ∧ 0 < e.2) ∨ (b.2 < 0 ∧ e.2 < 0) := by
        rcases rlt b.2 0 with c | c
        · rcases rlt e.2 0 with d | d
          · exact .inr ⟨c, d⟩
          · by_cases z : e.2 = 0
            · rw [z, sg0_zero, Int.mul_zero] at hs; omega
            · rw [sg0_neg c, sg0_pos (by grind)] at hs; omega
        · by_cases z : b.2 = 0
          · rw [z, sg0_zero, Int.zero_mul] at hs; omega
          · have bp : 0 < b.2 := by grind
            rcases rlt 0 e.2 with d | d
            · exact .inl ⟨bp, d⟩
            · by_cases z2 : e.2 = 0
              · rw [z2, sg0_zero, Int.mul_zero] at hs; omega
              · rw [sg0_pos bp, sg0_neg (by grind)] at hs; omega
      rcases hsame with ⟨c, d⟩ | ⟨c, d⟩
      · rcases rlt b.2 e.2 with q | q
        · have := (ln_amid (L := b.2) (U := e.2) hlt x1 x2 ⟨Rat.le_refl, Rat.le_of_lt q⟩ ⟨Rat.le_of_lt q, Rat.le_refl⟩).1
          grind
        · have := (ln_amid (L := e.2) (U := b.2) hlt x1 x2 ⟨q, Rat.le_refl⟩ ⟨Rat.le_refl, q⟩).1
          grind
      · rcases rlt b.2 e.2 with q | q
        · have := (ln_amid (L := b.2) (U := e.2) hlt x1 x2 ⟨Rat.le_refl, Rat.le_of_lt q⟩ ⟨Rat.le_of_lt q, Rat.le_refl⟩).2
          grind
        · have := (ln_amid (L := e.2) (U := b.2) hlt x1 x2 ⟨q, Rat.le_refl⟩ ⟨Rat.le_refl, q⟩).2
          grind
theorem flat_mono {f : Kn × Kn → List Kn} : ∀ {l : List Kn}, Inc l → (∀ p ∈ pairs l, Mono (f p) ∧ ∀ q ∈ f p, p.1.1 ≤ q.1 ∧ q.2 ≤ p.2.1) → Mono ((pairs l).flatMap f)
  | [], _, _ => by
    have : pairs ([] : List Kn) = [] := by
      rw [pairs]
      intros; simp_all
    rw [this]
    exact ⟨fun q hq => by simp at hq, .nil⟩
  | [a], _, _ => by
    have : pairs [a] = [] := by
      rw [pairs]
      intros; simp_all
    rw [this]
    exact ⟨fun q hq => by simp at hq, .nil⟩
  | a :: b :: l, hi, h => by
    rw [pairs_cons, List.flatMap_cons]
    rw [pairs_cons] at h
    obtain ⟨m1, r1⟩ := h (a, b) List.mem_cons_self
    obtain ⟨m2, m3⟩ := flat_mono (l := b :: l) hi.tail fun p hp => h p (List.mem_cons_of_mem _ hp)
    refine ⟨fun q hq => ?_, ?_⟩
    · rcases List.mem_append.mp hq with e | e
      · exact m1.1 q e
      · exact m2 q e
    · rw [List.pairwise_append]
      refine ⟨m1.2, m3, fun x hx y hy => ?_⟩
      obtain ⟨p, hp, hy'⟩ := List.mem_flatMap.mp hy
      have b1 : b.1 ≤ p.1.1 := by
        have hb := (pairs_mem hp).1
        rcases List.mem_cons.mp hb with h2 | h2
        · rw [h2]; exact Rat.le_refl
        · exact Rat.le_of_lt ((List.pairwise_cons.mp hi.tail).1 _ h2)
      have x1 := r1 x hx
      have x2 := m1.1 x hx
      have y1 := (h p (List.mem_cons_of_mem _ hp)).2 y hy'
      have y2 := m2 y hy
      simp only at x1
      exact ⟨by grind, by grind⟩
theorem inU_flat {f : Kn × Kn → List Kn} {l : List (Kn × Kn)} {x : Rat} : InU (l.flatMap f) x ↔ ∃ p ∈ l, InU (f p) x := by
  constructor
  · rintro ⟨q, hq, h⟩
    obtain ⟨p, hp, hq⟩ := List.mem_flatMap.mp hq
    exact ⟨p, hp, q, hq, h⟩
  · rintro ⟨p, hp, q, hq, h⟩
    exact ⟨q, List.mem_flatMap.mpr ⟨p, hp, hq⟩, h⟩
theorem mono_one {l : List Kn} (h : l.length ≤ 1) (h2 : ∀ p ∈ l, p.1 ≤ p.2) : Mono l := by
  refine ⟨h2, ?_⟩
  match l, h with
  | [], _ => exact .nil
  | [a], _ => exact List.pairwise_singleton _ _
/-- where it is nought -/
theorem noughts_in {rows : List Kn} (hi : Inc rows) (h2 : 2 ≤ rows.length) : Canon (noughtsK rows) ∧ ∀ x, InU (noughtsK rows) x ↔ loK rows ≤ x ∧ x ≤ hiK rows ∧ valK rows x = 0 := by
  have hm : Mono (pcsK rows) := by
    rw [pcs_flat]
    refine flat_mono hi fun p hp => ?_
    obtain ⟨h1, _⟩ := pcK_in (pairs_lt hi hp)
    exact ⟨mono_one (pcK_len _ _) fun q hq => (h1 q hq).2.1, fun q hq => ⟨(h1 q hq).1, (h1 q hq).2.2⟩⟩
  obtain ⟨c1, c2⟩ := join_canon hm
  refine ⟨c1, fun x => ?_⟩
  unfold noughtsK
  rw [c2 x, pcs_flat, inU_flat]
  constructor
  · rintro ⟨p, hp, hx⟩
    obtain ⟨x1, x2, x3⟩ := ((pcK_in (pairs_lt hi hp)).2 x).mp hx
    have l1 := loK_le hi (pairs_mem hp).1
    have l2 := le_hiK hi (pairs_mem hp).2
    exact ⟨by grind, by grind, by rw [val_piece hi hp x1 x2]; exact x3⟩
  · rintro ⟨x1, x2, x3⟩
    obtain ⟨p, hp, h1, h3⟩ := piece_of hi h2 (u := x) (v := x) x1 Rat.le_refl x2 (fun j hj => by grind)
    refine ⟨p, hp, ((pcK_in (pairs_lt hi hp)).2 x).mpr ⟨h1, h3, ?_⟩⟩
    rw [← val_piece hi hp h1 h3]
    exact x3

/-! ### sizes of maps of few figures, turned some times -/
def denP : List Kn → Nat
  | [] => 1
  | k :: l => k.1.den * k.2.den * denP l
theorem denP_pos : ∀ l : List Kn, 0 < denP l
  | [] => by decide
  | k :: l => by
    rw [denP]
    exact Nat.mul_pos (Nat.mul_pos k.1.den_pos k.2.den_pos) (denP_pos l)
theorem denP_le : ∀ {l : List Kn}, BdK 14 l → denP l ≤ 2 ^ (28 * l.length)
  | [], _ => by decide
  | k :: l, h => by
    have h1 := h.head
    have ih := denP_le h.tail
    rw [denP, List.length_cons, Nat.mul_succ, Nat.add_comm (28 * l.length), Nat.pow_add]
    refine Nat.mul_le_mul ?_ ih
    rw [show (28 : Nat) = 14 + 14 by decide, Nat.pow_add]
    exact Nat.mul_le_mul (Nat.le_of_lt h1.1.2) (Nat.le_of_lt h1.2.2)
theorem denP_dvd : ∀ {l : List Kn} {k : Kn}, k ∈ l → k.1.den ∣ denP l ∧ k.2.den ∣ denP l
  | [], k, h => by simp at h
  | a :: l, k, h => by
    rw [denP]
    rcases List.mem_cons.mp h with rfl | h
    · exact ⟨Nat.dvd_mul_right_of_dvd (Nat.dvd_mul_right _ _) _, Nat.dvd_mul_right_of_dvd (Nat.dvd_mul_left _ _) _⟩
    · have ih := denP_dvd h
      exact ⟨Nat.dvd_mul_left_of_dvd ih.1 _, Nat.dvd_mul_left_of_dvd ih.2 _⟩
theorem df_dvd {q : Rat} {be : Nat} (h : q.den ∣ be) : DF be 1 q := by
  obtain ⟨c, rfl⟩ := h
  refine ⟨q.num * c, 1, by decide, by decide, ?_⟩
  have k : (q.num : Rat) / ((q.den : Int) : Rat) * ((q.den : Int) : Rat) = q.num := Rat.div_mul_cancel (den_ne q)
  rw [← rat_eq q] at k
  have e1 : ((q.den : Int) : Rat) = (q.den : Rat) := rfl
  rw [e1] at k
  rw [Rat.intCast_mul, Rat.natCast_mul]
  have e2 : ((c : Int) : Rat) = (c : Rat) := rfl
  rw [e2]
  grind
theorem lf_slope {be n : Nat} {a b : Kn} (h : a.1 < b.1) (d1 : DF be 1 a.1) (d2 : DF be 1 a.2) (hs : Bd n (slp a b)) : LF be (2 ^ n) a b := by
  obtain ⟨x, v, v0, v1, ex⟩ := d1
  obtain rfl : v = 1 := by omega
  obtain ⟨y, v, w0, w1, ey⟩ := d2
  obtain rfl : v = 1 := by omega
  have e := slp_mul h
  generalize hs' : slp a b = s at hs e
  have k : (s.num : Rat) / ((s.den : Int) : Rat) * ((s.den : Int) : Rat) = s.num := Rat.div_mul_cancel (den_ne s)
  rw [← rat_eq s] at k
  have e1 : ((s.den : Int) : Rat) = (s.den : Rat) := rfl
  rw [e1] at k
  refine ⟨s.num, s.den, s.den * y - s.num * x, s.den_pos, Nat.le_of_lt hs.2, Nat.le_of_lt hs.1, ?_, ?_⟩
  · rw [Rat.intCast_sub, Rat.intCast_mul, Rat.intCast_mul, e1]
    grind
  · rw [Rat.intCast_sub, Rat.intCast_mul, Rat.intCast_mul, e1]
    have e3 : (s.den : Rat) * (b.2 - a.2) = s.num * (b.1 - a.1) := by rw [← e, ← k]; grind
    grind
theorem MpA.pf1 {ks : List Kn} (h : MpA ks) (h8 : ks.length ≤ 8) : ∃ be : Nat, 0 < be ∧ be ≤ 2 ^ 224 ∧ PF1 be (2 ^ 58) ks := by
  have hd : ∀ k ∈ ks, DF (denP ks) 1 k.1 ∧ DF (denP ks) 1 k.2 := fun k hk => ⟨df_dvd (denP_dvd hk).1, df_dvd (denP_dvd hk).2⟩
  refine ⟨denP ks, denP_pos ks, Nat.le_trans (denP_le h.bd) (Nat.pow_le_pow_right (by decide) (by omega)), hd, fun p hp => ?_⟩
  have m1 := (pairs_mem hp).1
  have m2 := (pairs_mem hp).2
  have hlt := pairs_lt h.good.inc hp
  have s1 : Bd 29 (p.2.2 - p.1.2) := (h.bd _ m2).2.sub (h.bd _ m1).2
  have s2 : Bd 29 (p.2.1 - p.1.1) := (h.bd _ m2).1.sub (h.bd _ m1).1
  exact lf_slope hlt (hd _ m1).1 (hd _ m1).2 (s1.div s2 (by grind))
theorem bd_rng {n : Nat} {q : Rat} (h : Bd n q) : -((2 : Rat) ^ n) ≤ q ∧ q ≤ (2 : Rat) ^ n := by
  have hd : (0 : Rat) < (q.den : Rat) := by exact_mod_cast q.den_pos
  have h1 : (1 : Rat) ≤ (q.den : Rat) := by exact_mod_cast q.den_pos
  have k : (q.num : Rat) / ((q.den : Int) : Rat) * ((q.den : Int) : Rat) = q.num := Rat.div_mul_cancel (den_ne q)
  rw [← rat_eq q] at k
  have e1 : ((q.den : Int) : Rat) = (q.den : Rat) := rfl
  rw [e1] at k
  have c1 : (2 : Rat) ^ n = ((2 ^ n : Nat) : Rat) := by rw [Rat.natCast_pow]; rfl
  have b := h.1
  have u1 : (q.num : Rat) ≤ (2 : Rat) ^ n := by
    rw [c1, ← Rat.intCast_natCast]
    exact_mod_cast (show q.num ≤ ((2 ^ n : Nat) : Int) by omega)
  have u2 : -((2 : Rat) ^ n) ≤ (q.num : Rat) := by
    rw [c1, ← Rat.intCast_natCast, ← Rat.intCast_neg]
    exact_mod_cast (show -((2 ^ n : Nat) : Int) ≤ q.num by omega)
  have p0 : (0 : Rat) ≤ (2 : Rat) ^ n := by rw [c1]; exact Rat.natCast_nonneg
  generalize (2 : Rat) ^ n = X at *
  generalize (q.den : Rat) = d at *
  constructor
  · rcases rlt q (-X) with c | c
    · have t := Rat.mul_pos (show (0 : Rat) < -X - q by grind) hd
      have t2 := Rat.mul_le_mul_of_nonneg_left h1 p0
      grind
    · exact c
  · rcases rlt X q with c | c
    · have t := Rat.mul_pos (show (0 : Rat) < q - X by grind) hd
      have t2 := Rat.mul_le_mul_of_nonneg_left h1 p0
      grind
    · exact c
/-- where a piece of a map meets what stays -/
theorem ln_met {b e : Kn} {lv : Rat} (h : b.1 < e.1) (hne : b.2 ≠ e.2) : ln b e (metK b e lv) = lv := by
  unfold ln metK slp
  have h1 : e.1 - b.1 ≠ 0 := by grind
  have h2 : e.2 - b.2 ≠ 0 := by grind
  have k1 : (e.2 - b.2) / (e.1 - b.1) * (e.1 - b.1) = e.2 - b.2 := Rat.div_mul_cancel h1
  have k2 : (lv - b.2) / (e.2 - b.2) * (e.2 - b.2) = lv - b.2 := Rat.div_mul_cancel h2
  generalize (e.2 - b.2) / (e.1 - b.1) = s at *
  generalize (lv - b.2) / (e.2 - b.2) = t at *
  have e3 : s * (b.1 + t * (e.1 - b.1) - b.1) = t * (s * (e.1 - b.1)) := by grind
  rw [e3, k1, k2]
  grind
def stK (k : Kn) : Kn := (k.1, k.2 - k.1)
theorem stayR_map (ks : List Kn) : stayR ks = ks.map stK := rfl
theorem ln_stK {b e : Kn} {t : Rat} (h : b.1 < e.1) : ln (stK b) (stK e) t = ln b e t - t := by
  unfold ln stK slp
  have h1 : e.1 - b.1 ≠ 0 := by grind
  have k1 : (e.2 - b.2) / (e.1 - b.1) * (e.1 - b.1) = e.2 - b.2 := Rat.div_mul_cancel h1
  have k2 : (e.2 - e.1 - (b.2 - b.1)) / (e.1 - b.1) * (e.1 - b.1) = e.2 - e.1 - (b.2 - b.1) := Rat.div_mul_cancel h1
  have k3 : (e.2 - e.1 - (b.2 - b.1)) / (e.1 - b.1) = (e.2 - b.2) / (e.1 - b.1) - 1 := by
    have : ((e.2 - e.1 - (b.2 - b.1)) / (e.1 - b.1) - ((e.2 - b.2) / (e.1 - b.1) - 1)) * (e.1 - b.1) = 0 := by grind
    rcases Rat.mul_eq_zero.mp this with q | q
    · grind
    · exact absurd q h1
  show b.2 - b.1 + (e.2 - e.1 - (b.2 - b.1)) / (e.1 - b.1) * (t - b.1) = _
  rw [k3]
  grind
theorem met_df {be N : Nat} {b e : Kn} (hb : 0 < be) (h : b.1 < e.1) (l : LF be N b e) (hne : (stK b).2 ≠ (stK e).2) : DF be (2 * N) (metK (stK b) (stK e) 0) := by
  have e0 := ln_met (b := stK b) (e := stK e) (lv := 0) h hne
  generalize metK (stK b) (stK e) 0 = x at *
  rw [ln_stK h] at e0
  obtain ⟨P, D, c, d0, dN, pN, e1, e2⟩ := l
  have e3 := LF.line (N := N) (t := x) h d0 hb e1 e2
  have ex : ln b e x = x := by grind
  rw [ex] at e3
  have hbe := nat_ne hb
  have hD : (D : Int) - P ≠ 0 := by
    intro hc
    have hP : (P : Rat) = (D : Rat) := by
      rw [← Rat.intCast_natCast]
      exact_mod_cast (show P = (D : Int) by omega)
    have hd := nat_ne d0
    have : (D : Rat) * be * ((b.2 - b.1) - (e.2 - e.1)) = 0 := by rw [hP] at e1 e2; grind
    rcases Rat.mul_eq_zero.mp this with q | q
    · rcases Rat.mul_eq_zero.mp q with q | q
      · exact hd q
      · exact hbe q
    · exact hne (by unfold stK; grind)
  have key : x * ((be : Rat) * (((D : Int) - P : Int) : Rat)) = c := by
    rw [Rat.intCast_sub, Rat.intCast_natCast]
    grind
  rcases Int.lt_or_gt_of_ne hD with q | q
  · refine ⟨-c, ((D : Int) - P).natAbs, by omega, by omega, ?_⟩
    have : ((((D : Int) - P).natAbs : Nat) : Rat) = - (((D : Int) - P : Int) : Rat) := by
      rw [← Rat.intCast_natCast, ← Rat.intCast_neg]
      congr 1
      omega
    rw [this, Rat.intCast_neg, ← key]
    grind
  · refine ⟨c, ((D : Int) - P).natAbs, by omega, by omega, ?_⟩
    have : ((((D : Int) - P).natAbs : Nat) : Rat) = (((D : Int) - P : Int) : Rat) := by
      rw [← Rat.intCast_natCast]
      congr 1
      omega
    rw [this, ← key]
/-- rows whose noughts may be looked for -/
structure NtB (rows : List Kn) : Prop where
  kn : ∀ k ∈ rows, Bd 650 k.1 ∧ Bd 1301 k.2
  met : ∀ p ∈ pairs rows, p.1.2 ≠ p.2.2 → sgQ p.1.2 0 * sgQ p.2.2 0 ≤ 0 → Bd 3300 (metK p.1 p.2 0)
/-- maps of the turns of a map of few figures -/
structure SzA (L U : Rat) (t : List Kn) : Prop where
  good : Good L U t
  lo : -((2 : Rat) ^ 14) ≤ L
  hi : U ≤ (2 : Rat) ^ 14
  pf : ∃ be : Nat, 0 < be ∧ be ≤ 2 ^ 224 ∧ PF be (2 ^ 406) t
theorem SzA.bd {L U : Rat} {t : List Kn} (h : SzA L U t) : BdK 650 t := by
  obtain ⟨be, b1, b2, pf⟩ := h.pf
  intro k hk
  have h1 := h.good.le hk
  have h2 := h.good.rng k hk
  have l := h.lo
  have u := h.hi
  exact ⟨(pf.kn k hk).1.bd (r := 14) b1 b2 (Nat.le_refl _) (by grind) (by grind) (by decide), (pf.kn k hk).2.bd (r := 14) b1 b2 (Nat.le_refl _) (by grind) (by grind) (by decide)⟩
theorem pc_met {b e : Kn} (h : b.1 < e.1) (hne : b.2 ≠ e.2) (hs : sgQ b.2 0 * sgQ e.2 0 ≤ 0) : b.1 ≤ metK b e 0 ∧ metK b e 0 ≤ e.1 := by
  have q := (pcK_in h).1
  have e : pcK b e = [(metK b e 0, metK b e 0)] := by
    unfold pcK
    rw [if_neg (fun c => hne (by rw [c.1, c.2])), if_pos hs]
  have := q _ (by rw [e]; exact List.mem_cons_self)
  exact ⟨this.1, this.2.2⟩
theorem two_pow (n : Nat) : 2 * 2 ^ n ≤ 2 ^ (n + 1) := by rw [Nat.pow_succ, Nat.mul_comm]; exact Nat.le_refl _
theorem SzA.nt {L U : Rat} {t : List Kn} (h : SzA L U t) : NtB (stayR t) := by
  have hb := h.bd
  refine ⟨fun k hk => ?_, fun p hp hne hs => ?_⟩
  · rw [stayR_map] at hk
    obtain ⟨z, hz, rfl⟩ := List.mem_map.mp hk
    exact ⟨(hb z hz).1, (hb z hz).2.sub (hb z hz).1⟩
  · obtain ⟨be, b1, b2, pf⟩ := h.pf
    rw [stayR_map, pairs_map] at hp
    obtain ⟨w, hw, rfl⟩ := List.mem_map.mp hp
    have hlt := pairs_lt h.good.inc hw
    have r := pc_met (b := stK w.1) (e := stK w.2) hlt hne hs
    have r1 := h.good.le (pairs_mem hw).1
    have r2 := h.good.le (pairs_mem hw).2
    have l := h.lo
    have u := h.hi
    have d := met_df b1 hlt (pf.pc w hw) hne
    have q1 : w.1.1 ≤ metK (stK w.1) (stK w.2) 0 := r.1
    have q2 : metK (stK w.1) (stK w.2) 0 ≤ w.2.1 := r.2
    exact (d.bd (m := 407) (r := 14) (k := 650) b1 b2 (two_pow 406) (by grind) (by grind) (by decide)).mono (by decide)
theorem PF.mono {be N M : Nat} {ks : List Kn} (h : PF be N ks) (hM : N ≤ M) : PF be M ks :=
  ⟨fun k hk => ⟨(h.kn k hk).1.mono hM, (h.kn k hk).2.mono hM⟩, fun p hp => by
    obtain ⟨P, D, c, d0, dN, pN, e1, e2⟩ := h.pc p hp
    exact ⟨P, D, c, d0, by omega, by omega, e1, e2⟩⟩
theorem PF1.pf {be N : Nat} {ks : List Kn} (h : PF1 be N ks) (hN : 1 ≤ N) : PF be N ks := ⟨fun k hk => ⟨(h.kn k hk).1.mono hN, (h.kn k hk).2.mono hN⟩, h.pc⟩
theorem MpA.ends {ks : List Kn} (h : MpA ks) : -((2 : Rat) ^ 14) ≤ loK ks ∧ hiK ks ≤ (2 : Rat) ^ 14 := by
  obtain ⟨k0, hk0, e0⟩ := loK_mem h.good.ne
  obtain ⟨k1, hk1, e1⟩ := hiK_mem h.good.ne
  rw [← e0, ← e1]
  exact ⟨(bd_rng (h.bd k0 hk0).1).1, (bd_rng (h.bd k1 hk1).1).2⟩
theorem pow58 {n : Nat} (hn : n ≤ 7) : (2 ^ 58) ^ n ≤ 2 ^ 406 := by
  rw [← Nat.pow_mul]
  exact Nat.pow_le_pow_right (by decide) (by omega)
theorem MpA.sz {ks : List Kn} (h : MpA ks) (h8 : ks.length ≤ 8) {n : Nat} (hn : n ≤ 7) : SzA (loK ks) (hiK ks) (turnK ks n) := by
  obtain ⟨be, b1, b2, p⟩ := h.pf1 h8
  exact ⟨turnK_good h.good n, h.ends.1, h.ends.2, be, b1, b2, (turnK_pf h.good p b1 (by decide) n).mono (pow58 hn)⟩
theorem MpA.szb {ks : List Kn} (h : MpA ks) (h8 : ks.length ≤ 8) {n : Nat} (hn : n ≤ 6) : SzA (loK ks) (hiK ks) (behK (turnK ks n) ks) := by
  obtain ⟨be, b1, b2, p⟩ := h.pf1 h8
  have b := turnK_beh h.good n
  have pf := turnK_pf h.good p b1 (by decide) n
  refine ⟨b.good (turnK_good h.good n) h.good, h.ends.1, h.ends.2, be, b1, b2, (b.pf (turnK_good h.good n) h.good pf p b1 (Nat.pow_pos (by decide)) (by decide)).mono ?_⟩
  rw [← Nat.pow_succ]
  exact pow58 (by omega)
/-- where a level is met, by greater numbers -/
def spMetW : DSp := fun ds m R _ => ∃ (b e : Kn) (lv : Rat), ds = [knD b, knD e, fr lv] ∧ Bd 650 b.1 ∧ Bd 1301 b.2 ∧ Bd 650 e.1 ∧ Bd 1301 e.2 ∧ Bd 4000 lv ∧ Bd 1316 (lv - b.2) ∧ b.2 ≠ e.2 ∧ Bd 4000 (metK b e lv - b.1) ∧ R (fr (metK b e lv)) m
theorem len_spMetW : ∀ ds m R E, spMetW ds m R E → ds.length = 3 := by
  rintro ds m R E ⟨a, b, c, rfl, _⟩; rfl
theorem NtB.m0 {rows : List Kn} (h : NtB rows) {p : Kn × Kn} (hp : p ∈ pairs rows) (hne : p.1.2 ≠ p.2.2) (hs : sgQ p.1.2 0 * sgQ p.2.2 0 ≤ 0) : Bd 4000 (0 : Rat) ∧ Bd 1316 (0 - p.1.2) ∧ Bd 4000 (metK p.1 p.2 0 - p.1.1) ∧ Bd 4000 (metK p.1 p.2 0) := by
  have m1 := h.kn _ (pairs_mem hp).1
  have mm := h.met p hp hne hs
  refine ⟨⟨by decide, by decide⟩, ?_, (mm.sub m1.1 (c := 3951)).mono (by decide), mm.mono (by decide)⟩
  have z : Bd 1 (0 : Rat) := ⟨by decide, by decide⟩
  exact (z.sub m1.2 (c := 1303)).mono (by decide)
theorem NtB.pcs {rows : List Kn} (h : NtB rows) : ∀ {dn : List (Kn × Kn)}, (∀ p ∈ dn, p ∈ pairs rows) → BdK 3300 (dn.flatMap fun p => pcK p.1 p.2) := by
  intro dn hd k hk
  obtain ⟨p, hp, hk⟩ := List.mem_flatMap.mp hk
  have hp := hd p hp
  have m1 := h.kn _ (pairs_mem hp).1
  have m2 := h.kn _ (pairs_mem hp).2
  unfold pcK at hk
  split at hk
  · simp at hk
    subst hk
    exact ⟨m1.1.mono (by decide), m2.1.mono (by decide)⟩
  · rename_i c
    split at hk
    · rename_i d
      simp at hk
      subst hk
      have := h.met p hp (pcK_ne c d) d
      exact ⟨this, this⟩
    · simp at hk
/-! ### what comes round: by turns with or without knots left out -/
theorem inc_stay {ks : List Kn} (h : Inc ks) : Inc (stayR ks) := by
  unfold Inc stayR
  rw [List.pairwise_map]
  exact h
theorem lo_stay (ks : List Kn) : loK (stayR ks) = loK ks := by cases ks <;> rfl
theorem hi_stay {ks : List Kn} (h : ks ≠ []) : hiK (stayR ks) = hiK ks := by
  have e := List.getLast?_eq_some_getLast h
  have e2 : (stayR ks).getLast? = some (stK (ks.getLast h)) := by
    rw [stayR_map, List.getLast?_map, e]
    rfl
  rw [hiK_lastK e, hiK_lastK e2]
  rfl
theorem val_stay {L U : Rat} {ks : List Kn} (g : Good L U ks) {x : Rat} (x1 : L ≤ x) (x2 : x ≤ U) : valK (stayR ks) x = valK ks x - x := by
  obtain ⟨p, hp, p1, p2, e⟩ := g.piece x1 x2
  have hp' : (stK p.1, stK p.2) ∈ pairs (stayR ks) := by
    rw [stayR_map, pairs_map]
    exact List.mem_map.mpr ⟨p, hp, rfl⟩
  rw [val_piece (inc_stay g.inc) hp' p1 p2, e]
  exact ln_stK (pairs_lt g.inc hp)
theorem stays_in {L U : Rat} {ks : List Kn} (g : Good L U ks) : Canon (noughtsK (stayR ks)) ∧ ∀ x, InU (noughtsK (stayR ks)) x ↔ L ≤ x ∧ x ≤ U ∧ valK ks x = x := by
  have h := noughts_in (inc_stay g.inc) (by unfold stayR; rw [List.length_map]; exact g.len)
  rw [lo_stay, hi_stay g.ne, g.lo, g.hi] at h
  refine ⟨h.1, fun x => ?_⟩
  rw [h.2 x]
  constructor
  · rintro ⟨h1, h2, h3⟩
    rw [val_stay g h1 h2] at h3
    exact ⟨h1, h2, by grind⟩
  · rintro ⟨h1, h2, h3⟩
    rw [val_stay g h1 h2]
    exact ⟨h1, h2, by grind⟩
theorem turnK_least {L U : Rat} {ks : List Kn} (g : Good L U ks) : ∀ n, turnK (leastK ks) n = turnK ks n
  | 0 => by
    unfold turnK
    rw [loK_least, hiK_least]
  | n + 1 => by
    have g1 := turnK_good g n
    have gl := g.least
    show leastK (behK (turnK (leastK ks) n) (leastK ks)) = leastK (behK (turnK ks n) ks)
    rw [turnK_least g n]
    have b1 := isBeh_behK g1 gl
    have b2 := isBeh_behK g1 g
    refine least_uniq (b1.good g1 gl) (b2.good g1 g) fun t t1 t2 => ?_
    rw [b1.val g1 gl t1 t2, b2.val g1 g t1 t2, val_least g.inc]
/-! numbers of pieces -/
theorem amidF_in {L U : Rat} {a b : Kn} {o : List Kn} (g : Good L U o) (ha : L ≤ a.2 ∧ a.2 ≤ U) (hb : L ≤ b.2 ∧ b.2 ≤ U) : (amidK a b o).length + 2 ≤ o.length := by
  have e : (amidK a b o).length = (o.filter fun k => decide (Amids a b k.1)).length := by
    unfold amidK
    split
    · rw [List.length_reverse]; unfold amidF; rw [List.length_map]
    · unfold amidF; rw [List.length_map]
  rw [e]
  match o, g with
  | k0 :: l, g =>
    have h0 : ¬ Amids a b k0.1 := by
      have := g.lo
      rw [loK_cons] at this
      rw [this]
      unfold Amids
      grind
    rw [List.filter_cons_of_neg (by simpa using h0)]
    obtain ⟨z, ez, zU, _⟩ := g.last
    have hl : l ≠ [] := by
      intro e
      have := g.len
      subst e
      simp at this
    have hz : l.getLast? = some z := by
      rw [List.getLast?_cons] at ez
      cases hh : l.getLast? with
      | none => exact absurd (List.getLast?_eq_none_iff.mp hh) hl
      | some w => rw [hh] at ez; simpa using ez
    obtain ⟨ys, rfl⟩ := List.getLast?_eq_some_iff.mp hz
    have h1 : ¬ Amids a b z.1 := by
      rw [zU]
      unfold Amids
      grind
    rw [List.filter_append, List.filter_cons_of_neg (by simpa using h1), List.filter_nil, List.append_nil]
    have := List.length_filter_le (fun k : Kn => decide (Amids a b k.1)) ys
    simp
    omega
theorem behL_pieces {L U : Rat} {o : List Kn} (g : Good L U o) : ∀ (l : List Kn) (a : Kn), (∀ k ∈ a :: l, L ≤ k.2 ∧ k.2 ≤ U) → (behL o (a :: l)).length ≤ l.length * (o.length - 1)
  | [], a, _ => by simp [behL]
  | b :: l, a, h => by
    have h1 := amidF_in (a := a) (b := b) g (h a (by simp)) (h b (by simp))
    have ih := behL_pieces g l b fun k hk => h k (List.mem_cons_of_mem _ hk)
    rw [behL_cons, List.length_append, List.length_cons, List.length_cons, Nat.add_mul, Nat.one_mul]
    omega
theorem behK_pieces {L U : Rat} {one o : List Kn} (g1 : Good L U one) (g : Good L U o) : (behK one o).length ≤ 1 + (one.length - 1) * (o.length - 1) := by
  match one, g1 with
  | a :: l, g1 =>
    have := behL_pieces g l a g1.rng
    show ((a.1, valK o a.2) :: behL o (a :: l)).length ≤ _
    rw [List.length_cons, List.length_cons]
    simp only [Nat.add_sub_cancel]
    omega
theorem pieces_step {a b x : Nat} (h : x ≤ 1 + (a - 1) * b) {p : Nat} (ha : a ≤ 1 + p) : x ≤ 1 + p * b := by
  have := Nat.mul_le_mul_right b (show a - 1 ≤ p by omega)
  omega
theorem turnK_pieces {L U : Rat} {ks : List Kn} (g : Good L U ks) : ∀ n, (turnK ks n).length ≤ 1 + (ks.length - 1) ^ n
  | 0 => by unfold turnK; simp
  | n + 1 => by
    have h1 := behK_pieces (turnK_good g n) g
    have h2 := leastK_le (behK (turnK ks n) ks)
    have h3 := pieces_step h1 (turnK_pieces g n)
    rw [Nat.pow_succ]
    show (leastK (behK (turnK ks n) ks)).length ≤ _
    omega
theorem MpA.least {ks : List Kn} (h : MpA ks) : MpA (leastK ks) := by
  refine ⟨?_, h.bd.least⟩
  rw [loK_least, hiK_least]
  exact h.good.least
/-- what was new may be written again -/
theorem Sub.wrB {m M : Mu} {a : Addr} {o : O} (s : Sub m M) (h : m a = none) : Sub m (mput M a o) := fun b u hb => by
  rw [mput_ne (fun e => by rw [e, h] at hb; cases hb)]
  exact s b u hb
theorem at_eq {l : List D} {n : Nat} {i : Int} {d : D} {k : D → Prop} (hi : i = n) (h : l[n]? = some d) : atK l i k = k d := by
  subst hi
  rw [atK_nat h]
/-! ### rounds -/
def wayR (ks : List Kn) (x : Rat) (n : Nat) : List Rat := (List.range n).map fun j => iterV ks j x
theorem wayR_succ {ks : List Kn} {x : Rat} {n : Nat} : wayR ks x (n + 1) = wayR ks x n ++ [iterV ks n x] := by
  unfold wayR
  rw [List.range_succ, List.map_append]
  rfl
theorem wayR_len {ks : List Kn} {x : Rat} {n : Nat} : (wayR ks x n).length = n := by unfold wayR; simp
theorem wayR_get {ks : List Kn} {x : Rat} {n j : Nat} (h : j < n) : (wayR ks x n)[j]? = some (iterV ks j x) := by
  unfold wayR
  rw [List.getElem?_map, List.getElem?_range h]
  rfl
theorem mem_wayR {ks : List Kn} {x y : Rat} {n : Nat} : y ∈ wayR ks x n ↔ ∃ j, j < n ∧ y = iterV ks j x := by
  unfold wayR
  simp only [List.mem_map, List.mem_range]
  constructor
  · rintro ⟨j, hj, rfl⟩
    exact ⟨j, hj, rfl⟩
  · rintro ⟨j, hj, rfl⟩
    exact ⟨j, hj, rfl⟩
/-- a lone point that is the least of its round of n -/
def isRd (ks : List Kn) (n : Nat) (p : Kn) : Prop := p.1 = p.2 ∧ ∀ j, 0 < j → j < n → p.1 < iterV ks j p.1
open Classical in
noncomputable def rdsP (ks : List Kn) (n : Nat) (ps : List Kn) : List (List Rat) := (ps.filter fun p => decide (isRd ks n p)).map fun p => wayR ks p.1 n
noncomputable def rdsK (ks : List Kn) (n : Nat) : List (List Rat) := rdsP ks n (noughtsK (stayR (turnK ks n)))
def rowD (w : List Rat) : D := .tup (w.map fr)
def rdD (ws : List (List Rat)) : D := .tup (ws.map rowD)
theorem enc_row : Enc 3 rowD (fun w : List Rat => PyData.tuple (w.map frP)) := enc_list enc_fr
theorem enc_rd : Enc 4 rdD (fun ws : List (List Rat) => PyData.tuple (ws.map fun w => PyData.tuple (w.map frP))) := enc_list enc_row
/-! sizes -/
theorem put_all {P : Rat → Prop} {ps : List Kn} {p : Kn} (h : ∀ k ∈ ps, P k.1 ∧ P k.2) (hp : P p.1 ∧ P p.2) : ∀ k ∈ putK ps p, P k.1 ∧ P k.2 := by
  rcases List.eq_nil_or_concat ps with rfl | ⟨qs, l, e⟩
  · rw [putK_nil]
    intro k hk
    simp at hk
    rw [hk]
    exact hp
  · have e' : ps = qs ++ [l] := by simpa using e
    subst e'
    rw [putK_snoc]
    split
    · intro k hk
      rcases List.mem_append.mp hk with q | q
      · exact h k (by simp [q])
      · simp at q
        rw [q]
        exact ⟨(h l (by simp)).1, hp.2⟩
    · intro k hk
      rcases List.mem_append.mp hk with q | q
      · exact h k q
      · simp at q
        rw [q]
        exact hp
theorem fold_all {P : Rat → Prop} : ∀ (qs : List Kn) {ps : List Kn}, (∀ k ∈ ps, P k.1 ∧ P k.2) → (∀ k ∈ qs, P k.1 ∧ P k.2) → ∀ k ∈ qs.foldl putK ps, P k.1 ∧ P k.2
  | [], ps, h, _ => h
  | q :: qs, ps, h, hq => fold_all qs (put_all h (hq q (by simp))) fun k hk => hq k (List.mem_cons_of_mem _ hk)
theorem noughts_all {P : Rat → Prop} {rows : List Kn} (hk : ∀ k ∈ rows, P k.1) (hm : ∀ p ∈ pairs rows, p.1.2 ≠ p.2.2 → sgQ p.1.2 0 * sgQ p.2.2 0 ≤ 0 → P (metK p.1 p.2 0)) : ∀ k ∈ noughtsK rows, P k.1 ∧ P k.2 := by
  unfold noughtsK joinK
  refine fold_all _ (fun k h => by simp at h) ?_
  rw [pcs_flat]
  intro k h
  obtain ⟨p, hp, h⟩ := List.mem_flatMap.mp h
  unfold pcK at h
  split at h
  · simp at h
    have q1 := hk _ (pairs_mem hp).1
    have q2 := hk _ (pairs_mem hp).2
    rw [h]
    exact ⟨q1, q2⟩
  · rename_i c
    split at h
    · rename_i d
      simp at h
      rw [h]
      have := hm p hp (pcK_ne c d) d
      exact ⟨this, this⟩
    · simp at h
theorem iter_df {L U : Rat} {ks : List Kn} {be M V : Nat} (g : Good L U ks) (p : PF1 be M ks) (hb : 0 < be) {x : Rat} (x1 : L ≤ x) (x2 : x ≤ U) (hx : DF be V x) : ∀ j, DF be (V * M ^ j) (iterV ks j x)
  | 0 => by rw [Nat.pow_zero, Nat.mul_one]; exact hx
  | j + 1 => by
    have ih := iter_df g p hb x1 x2 hx j
    have r := iterV_rng g x1 x2 j
    obtain ⟨w, hw, w1, w2, e⟩ := g.piece r.1 r.2
    show DF be (V * M ^ (j + 1)) (valK ks (iterV ks j x))
    rw [e, Nat.pow_succ, ← Nat.mul_assoc]
    exact DF.val hb (pairs_lt g.inc hw) (p.pc w hw) ih
/-- the ends of what comes round, and where they are led -/
theorem MpA.round {ks : List Kn} (h : MpA ks) (h8 : ks.length ≤ 8) {n : Nat} (hn : n ≤ 7) : ∀ k ∈ noughtsK (stayR (turnK ks n)), ∀ x, x = k.1 ∨ x = k.2 → loK ks ≤ x ∧ x ≤ hiK ks ∧ ∀ j, j ≤ 6 → Bd 1000 (iterV ks j x) := by
  obtain ⟨be, b1, b2, p⟩ := h.pf1 h8
  have g := h.good
  have gt := turnK_good g n
  have pf := (turnK_pf g p b1 (by decide) n).mono (pow58 hn)
  have key : ∀ k ∈ noughtsK (stayR (turnK ks n)), (loK ks ≤ k.1 ∧ k.1 ≤ hiK ks ∧ DF be (2 * 2 ^ 406) k.1) ∧ (loK ks ≤ k.2 ∧ k.2 ≤ hiK ks ∧ DF be (2 * 2 ^ 406) k.2) := by
    refine noughts_all (P := fun x => loK ks ≤ x ∧ x ≤ hiK ks ∧ DF be (2 * 2 ^ 406) x) (fun k hk => ?_) fun w hw hne hs => ?_
    · rw [stayR_map] at hk
      obtain ⟨z, hz, rfl⟩ := List.mem_map.mp hk
      have r := gt.le hz
      exact ⟨r.1, r.2, (pf.kn z hz).1.mono (Nat.le_mul_of_pos_left _ (by decide))⟩
    · rw [stayR_map, pairs_map] at hw
      obtain ⟨w, hw2, rfl⟩ := List.mem_map.mp hw
      have hlt := pairs_lt gt.inc hw2
      have r := pc_met (b := stK w.1) (e := stK w.2) hlt hne hs
      have r1 := gt.le (pairs_mem hw2).1
      have r2 := gt.le (pairs_mem hw2).2
      have q1 : w.1.1 ≤ metK (stK w.1) (stK w.2) 0 := r.1
      have q2 : metK (stK w.1) (stK w.2) 0 ≤ w.2.1 := r.2
      exact ⟨by grind, by grind, met_df b1 hlt (pf.pc w hw2) hne⟩
  intro k hk x hx
  have q : loK ks ≤ x ∧ x ≤ hiK ks ∧ DF be (2 * 2 ^ 406) x := by
    rcases hx with rfl | rfl
    · exact (key k hk).1
    · exact (key k hk).2
  refine ⟨q.1, q.2.1, fun j hj => ?_⟩
  have d := iter_df g p b1 q.1 q.2.1 q.2.2 j
  have r := iterV_rng g q.1 q.2.1 j
  have e := h.ends
  refine d.bd (m := 755) (r := 14) b1 b2 ?_ (by grind) (by grind) (by decide)
  have h1 : (2 ^ 58) ^ j ≤ 2 ^ 348 := by
    rw [← Nat.pow_mul]
    exact Nat.pow_le_pow_right (by decide) (by omega)
  have h2 := Nat.mul_le_mul_left (2 * 2 ^ 406) h1
  have h3 : 2 * 2 ^ 406 * 2 ^ 348 = 2 ^ (1 + 406 + 348) := by rw [Nat.pow_add, Nat.pow_add, Nat.pow_one]
  exact Nat.le_trans h2 (Nat.le_of_eq h3)
/-! theory of rounds -/
theorem iterV_add {ks : List Kn} {x : Rat} {b : Nat} : ∀ a, iterV ks (a + b) x = iterV ks a (iterV ks b x)
  | 0 => by rw [Nat.zero_add]; rfl
  | a + 1 => by
    rw [show a + 1 + b = (a + b) + 1 by omega]
    show valK ks (iterV ks (a + b) x) = valK ks (iterV ks a (iterV ks b x))
    rw [iterV_add a]
theorem fix_of {L U : Rat} {ks : List Kn} (g : Good L U ks) {n : Nat} {p : Kn} (hp : p ∈ noughtsK (stayR (turnK ks n))) : L ≤ p.1 ∧ p.1 ≤ p.2 ∧ p.2 ≤ U ∧ ∀ x, p.1 ≤ x → x ≤ p.2 → iterV ks n x = x := by
  obtain ⟨c, i⟩ := stays_in (turnK_good g n)
  have h12 := c.1 p hp
  have h1 := (i p.1).mp ⟨p, hp, Rat.le_refl, h12⟩
  have h2 := (i p.2).mp ⟨p, hp, h12, Rat.le_refl⟩
  refine ⟨h1.1, h12, h2.2.1, fun x x1 x2 => ?_⟩
  have h3 := (i x).mp ⟨p, hp, x1, x2⟩
  have := turnK_val g h3.1 h3.2.1 n
  rw [← this]
  exact h3.2.2
/-- what two turns meet at, meets ahead -/
theorem iter_meet {ks : List Kn} {x : Rat} {n i j : Nat} (hx : iterV ks n x = x) (hij : i < j) (hj : j < n) (e : iterV ks i x = iterV ks j x) : iterV ks (n - j + i) x = x := by
  rw [iterV_add, e, ← iterV_add, show n - j + j = n by omega, hx]
theorem rd_nodup {ks : List Kn} {n : Nat} {p : Kn} (h : isRd ks n p) (hx : iterV ks n p.1 = p.1) : (wayR ks p.1 n).Nodup := by
  unfold wayR List.Nodup
  rw [List.pairwise_map]
  refine List.pairwise_iff_getElem.mpr fun i j hi hj hij e => ?_
  simp at hi hj e
  have := iter_meet hx hij hj e
  have := h.2 (n - j + i) (by omega) (by omega)
  grind
/-- a fraction as its two numbers -/
def nd (q : Rat) : Int × Int := (q.num, (q.den : Int))
theorem rdsK_len (ks : List Kn) (n : Nat) : (rdsK ks n).length ≤ (turnK ks n).length := by
  unfold rdsK rdsP
  rw [List.length_map]
  have h1 := List.length_filter_le (fun p => @decide (isRd ks n p) (Classical.propDecidable _)) (noughtsK (stayR (turnK ks n)))
  have h2 := noughts_len (stayR (turnK ks n))
  have h3 : (stayR (turnK ks n)).length = (turnK ks n).length := by unfold stayR; rw [List.length_map]
  omega
theorem rdsK_mem {ks : List Kn} {n : Nat} {w : List Rat} (h : w ∈ rdsK ks n) : ∃ p ∈ noughtsK (stayR (turnK ks n)), w = wayR ks p.1 n := by
  unfold rdsK rdsP at h
  obtain ⟨p, hp, rfl⟩ := List.mem_map.mp h
  exact ⟨p, (List.mem_filter.mp hp).1, rfl⟩

/-! ### maps that go from end to end and back -/
def AltR (L U : Rat) : List Rat → Prop
  | x :: y :: l => ((x = L ∧ y = U) ∨ (x = U ∧ y = L)) ∧ AltR L U (y :: l)
  | _ => True
structure Zig (L U : Rat) (ks : List Kn) : Prop where
  good : Good L U ks
  alt : AltR L U (ks.map (·.2))
/-- a map as first knot, those amid, last knot -/
theorem Good.split {L U : Rat} {o : List Kn} (g : Good L U o) : ∃ k0 mid z, o = k0 :: (mid ++ [z]) ∧ k0.1 = L ∧ z.1 = U ∧ ∀ k ∈ mid, L < k.1 ∧ k.1 < U := by
  match o, g with
  | k0 :: l, g =>
    obtain ⟨z, ez, zU, _⟩ := g.last
    have hl : l ≠ [] := by
      intro e
      have := g.len
      subst e
      simp at this
    have hz : l.getLast? = some z := by
      rw [List.getLast?_cons] at ez
      cases hh : l.getLast? with
      | none => exact absurd (List.getLast?_eq_none_iff.mp hh) hl
      | some w => rw [hh] at ez; simpa using ez
    obtain ⟨ys, rfl⟩ := List.getLast?_eq_some_iff.mp hz
    have h0 : k0.1 = L := g.lo
    refine ⟨k0, ys, z, rfl, h0, zU, fun k hk => ?_⟩
    have hi := List.pairwise_cons.mp g.inc
    have h1 := hi.1 k (List.mem_append_left _ hk)
    have h2 := (List.pairwise_append.mp hi.2).2.2 k hk z (by simp)
    rw [h0] at h1
    rw [zU] at h2
    exact ⟨h1, h2⟩
/-! ### all rounds together -/
theorem iter_fix {ks : List Kn} {x : Rat} {n : Nat} (h : iterV ks n x = x) : ∀ t, iterV ks (t * n) x = x
  | 0 => by rw [Nat.zero_mul]; rfl
  | t + 1 => by rw [Nat.add_mul, Nat.one_mul, iterV_add, h, iter_fix h t]
theorem iter_comm {ks : List Kn} {x : Rat} {n j : Nat} (h : iterV ks n x = x) : iterV ks n (iterV ks j x) = iterV ks j x := by
  rw [← iterV_add, Nat.add_comm, iterV_add, h]
theorem iter_mod {ks : List Kn} {x : Rat} {d j : Nat} (h : iterV ks d x = x) : iterV ks j x = iterV ks (j % d) x := by
  conv => lhs; rw [← Nat.mod_add_div j d, Nat.mul_comm, iterV_add, iter_fix h]
/-- the shortest turn that leads a point to itself -/
theorem least_turn {ks : List Kn} {x : Rat} {n : Nat} (n1 : 1 ≤ n) (h : iterV ks n x = x) : ∃ d, 1 ≤ d ∧ d ≤ n ∧ d ∣ n ∧ iterV ks d x = x ∧ ∀ j, 0 < j → j < d → iterV ks j x ≠ x := by
  have key : ∀ k, k ≤ n → (∃ d, 1 ≤ d ∧ d ≤ k ∧ iterV ks d x = x ∧ ∀ j, 0 < j → j < d → iterV ks j x ≠ x) ∨ ∀ j, 0 < j → j ≤ k → iterV ks j x ≠ x := by
    intro k
    induction k with
    | zero => exact fun _ => .inr fun j h1 h2 => by omega
    | succ k ih =>
      intro hk
      rcases ih (by omega) with ⟨d, d1, d2, d3⟩ | hno
      · exact .inl ⟨d, d1, by omega, d3⟩
      · by_cases c : iterV ks (k + 1) x = x
        · exact .inl ⟨k + 1, by omega, by omega, c, fun j h1 h2 => hno j h1 (by omega)⟩
        · exact .inr fun j h1 h2 => by
            rcases Nat.lt_or_ge j (k + 1) with q | q
            · exact hno j h1 (by omega)
            · rw [show j = k + 1 by omega]; exact c
  rcases key n (Nat.le_refl n) with ⟨d, d1, d2, d3, d4⟩ | hno
  · refine ⟨d, d1, d2, ?_, d3, d4⟩
    have e := iter_mod (j := n) d3
    rw [h] at e
    rcases Nat.eq_zero_or_pos (n % d) with c | c
    · exact Nat.dvd_of_mod_eq_zero c
    · exact absurd e.symm (d4 _ c (Nat.mod_lt _ (by omega)))
  · exact absurd h (hno n (by omega) (Nat.le_refl n))
/-- the least point of a round -/
theorem least_pt {ks : List Kn} {x : Rat} {d : Nat} (d1 : 1 ≤ d) (h : iterV ks d x = x) (hmin : ∀ j, 0 < j → j < d → iterV ks j x ≠ x) : ∃ i, i < d ∧ iterV ks d (iterV ks i x) = iterV ks i x ∧ (∀ j, 0 < j → j < d → iterV ks i x < iterV ks j (iterV ks i x)) ∧ ∃ j, j < d ∧ x = iterV ks j (iterV ks i x) := by
  have ex : ∀ k, 1 ≤ k → ∃ i, i < k ∧ ∀ j, j < k → iterV ks i x ≤ iterV ks j x := by
    intro k
    induction k with
    | zero => intro h; omega
    | succ k ih =>
      intro _
      rcases Nat.eq_zero_or_pos k with rfl | k0
      · exact ⟨0, by omega, fun j hj => by rw [show j = 0 by omega]; exact Rat.le_refl⟩
      · obtain ⟨i, i1, i2⟩ := ih k0
        rcases rlt (iterV ks k x) (iterV ks i x) with c | c
        · refine ⟨k, by omega, fun j hj => ?_⟩
          rcases Nat.lt_or_ge j k with q | q
          · have := i2 j q
            grind
          · rw [show j = k by omega]; exact Rat.le_refl
        · refine ⟨i, by omega, fun j hj => ?_⟩
          rcases Nat.lt_or_ge j k with q | q
          · exact i2 j q
          · rw [show j = k by omega]; exact c
  obtain ⟨i, hi, hle⟩ := ex d d1
  have back : iterV ks (d - i) (iterV ks i x) = x := by rw [← iterV_add, show d - i + i = d by omega, h]
  refine ⟨i, hi, iter_comm h, fun j j0 jd => ?_, ?_⟩
  · have h1 : iterV ks i x ≤ iterV ks j (iterV ks i x) := by
      rw [← iterV_add, iter_mod (j := j + i) h]
      exact hle _ (Nat.mod_lt _ (by omega))
    have h2 : iterV ks j (iterV ks i x) ≠ iterV ks i x := by
      intro e
      have e2 : iterV ks j x = x := by
        have : iterV ks (d - i) (iterV ks j (iterV ks i x)) = x := by rw [e, back]
        rw [← iterV_add, Nat.add_comm, iterV_add, back] at this
        exact this
      exact hmin j j0 jd e2
    grind
  · by_cases c : i = 0
    · subst c
      exact ⟨0, by omega, rfl⟩
    · exact ⟨d - i, by omega, back.symm⟩
theorem rdsK_iff {ks : List Kn} {n : Nat} {w : List Rat} : w ∈ rdsK ks n ↔ ∃ p ∈ noughtsK (stayR (turnK ks n)), isRd ks n p ∧ w = wayR ks p.1 n := by
  unfold rdsK rdsP
  constructor
  · intro h
    obtain ⟨p, hp, rfl⟩ := List.mem_map.mp h
    have := List.mem_filter.mp hp
    exact ⟨p, this.1, by simpa using this.2, rfl⟩
  · rintro ⟨p, hp, hr, rfl⟩
    exact List.mem_map.mpr ⟨p, List.mem_filter.mpr ⟨hp, by simpa using hr⟩, rfl⟩
/-- all points of the rounds whose lengths divide n -/
noncomputable def foundK (ks : List Kn) (n k : Nat) : List Rat := ((List.range k).filter fun i => decide (n % (i + 1) = 0)).flatMap fun i => (rdsK ks (i + 1)).flatten
theorem foundK_succ {ks : List Kn} {n k : Nat} : foundK ks n (k + 1) = foundK ks n k ++ if n % (k + 1) = 0 then (rdsK ks (k + 1)).flatten else [] := by
  unfold foundK
  rw [List.range_succ, List.filter_append, List.flatMap_append]
  congr 1
  by_cases c : n % (k + 1) = 0
  · rw [if_pos c, List.filter_cons_of_pos (by simpa using c)]
    simp
  · rw [if_neg c, List.filter_cons_of_neg (by simpa using c)]
    simp
theorem mem_foundK {ks : List Kn} {n k : Nat} {x : Rat} : x ∈ foundK ks n k ↔ ∃ d, 1 ≤ d ∧ d ≤ k ∧ d ∣ n ∧ ∃ p ∈ noughtsK (stayR (turnK ks d)), isRd ks d p ∧ ∃ j, j < d ∧ x = iterV ks j p.1 := by
  unfold foundK
  rw [List.mem_flatMap]
  constructor
  · rintro ⟨i, hi, hx⟩
    obtain ⟨h1, h2⟩ := List.mem_filter.mp hi
    obtain ⟨w, hw, hxw⟩ := List.mem_flatten.mp hx
    obtain ⟨p, hp, hr, rfl⟩ := rdsK_iff.mp hw
    exact ⟨i + 1, by omega, by have := List.mem_range.mp h1; omega, Nat.dvd_of_mod_eq_zero (by simpa using h2), p, hp, hr, mem_wayR.mp hxw⟩
  · rintro ⟨d, d1, d2, d3, p, hp, hr, hx⟩
    refine ⟨d - 1, List.mem_filter.mpr ⟨by simp; omega, by rw [show d - 1 + 1 = d by omega]; simpa using Nat.mod_eq_zero_of_dvd d3⟩, ?_⟩
    rw [show d - 1 + 1 = d by omega]
    exact List.mem_flatten.mpr ⟨_, rdsK_iff.mpr ⟨p, hp, hr, rfl⟩, mem_wayR.mpr hx⟩
/-- a round's points come round by no shorter turn -/
theorem rd_prime {ks : List Kn} {d i j : Nat} {p : Kn} (hr : isRd ks d p) (hp : iterV ks d p.1 = p.1) (hi : i < d) (j0 : 0 < j) (jd : j < d) : iterV ks j (iterV ks i p.1) ≠ iterV ks i p.1 := by
  intro e
  have back : iterV ks (d - i) (iterV ks i p.1) = p.1 := by rw [← iterV_add, show d - i + i = d by omega, hp]
  have : iterV ks (d - i) (iterV ks j (iterV ks i p.1)) = p.1 := by rw [e, back]
  rw [← iterV_add, Nat.add_comm, iterV_add, back] at this
  have := hr.2 j j0 jd
  grind
/-- two rounds that meet are one -/
theorem rd_meet {ks : List Kn} {d d' i i' : Nat} {p p' : Kn} (hr : isRd ks d p) (hp : iterV ks d p.1 = p.1) (hr' : isRd ks d' p') (hp' : iterV ks d' p'.1 = p'.1) (hi : i < d) (hi' : i' < d') (e : iterV ks i p.1 = iterV ks i' p'.1) : d = d' ∧ p = p' := by
  have f1 : iterV ks d (iterV ks i p.1) = iterV ks i p.1 := iter_comm hp
  have f2 : iterV ks d' (iterV ks i p.1) = iterV ks i p.1 := by rw [e]; exact iter_comm hp'
  have ed : d = d' := by
    rcases Nat.lt_trichotomy d d' with c | c | c
    · refine absurd ?_ (rd_prime hr' hp' hi' (by omega) c)
      rw [← e]; exact f1
    · exact c
    · exact absurd f2 (rd_prime hr hp hi (by omega) c)
  subst ed
  refine ⟨rfl, ?_⟩
  have back : iterV ks (d - i) (iterV ks i p.1) = p.1 := by rw [← iterV_add, show d - i + i = d by omega, hp]
  have back' : iterV ks (d - i') (iterV ks i' p'.1) = p'.1 := by rw [← iterV_add, show d - i' + i' = d by omega, hp']
  have q1 : p.1 = iterV ks ((d - i + i') % d) p'.1 := by rw [← iter_mod hp', iterV_add, ← e, back]
  have q2 : p'.1 = iterV ks ((d - i' + i) % d) p.1 := by rw [← iter_mod hp, iterV_add, e, back']
  have l1 : p'.1 ≤ p.1 := by
    rcases Nat.eq_zero_or_pos ((d - i + i') % d) with c | c
    · rw [c] at q1
      have q1 : p.1 = p'.1 := q1
      grind
    · have := hr'.2 _ c (Nat.mod_lt _ (by omega))
      rw [← q1] at this
      grind
  have l2 : p.1 ≤ p'.1 := by
    rcases Nat.eq_zero_or_pos ((d - i' + i) % d) with c | c
    · rw [c] at q2
      have q2 : p'.1 = p.1 := q2
      grind
    · have := hr.2 _ c (Nat.mod_lt _ (by omega))
      rw [← q2] at this
      grind
  have e1 : p.1 = p'.1 := by grind
  exact Prod.ext e1 (by rw [← hr.1, ← hr'.1]; exact e1)
theorem canon_nodup {ps : List Kn} (h : Canon ps) : ps.Nodup := by
  refine List.Pairwise.imp_of_mem (fun {a b} ha hb hab e => ?_) h.2
  have := h.1 a ha
  rw [e] at hab
  have := h.1 b hb
  grind
theorem foundK_nodup {L U : Rat} {ks : List Kn} (g : Good L U ks) (n k : Nat) : (foundK ks n k).Nodup := by
  unfold foundK List.Nodup
  rw [List.pairwise_flatMap]
  constructor
  · intro i _
    rw [List.pairwise_flatten]
    constructor
    · intro w hw
      obtain ⟨p, hp, hr, rfl⟩ := rdsK_iff.mp hw
      exact rd_nodup hr ((fix_of g hp).2.2.2 p.1 Rat.le_refl (fix_of g hp).2.1)
    · unfold rdsK rdsP
      rw [List.pairwise_map]
      have nd := canon_nodup (stays_in (turnK_good g (i + 1))).1
      refine List.Pairwise.imp_of_mem (fun {p q} hp hq hpq x hx y hy e => ?_) (List.Pairwise.filter _ nd)
      have hp := List.mem_filter.mp hp
      have hq := List.mem_filter.mp hq
      obtain ⟨j, hj, rfl⟩ := mem_wayR.mp hx
      obtain ⟨j', hj', rfl⟩ := mem_wayR.mp hy
      exact hpq (rd_meet (by simpa using hp.2) ((fix_of g hp.1).2.2.2 p.1 Rat.le_refl (fix_of g hp.1).2.1) (by simpa using hq.2) ((fix_of g hq.1).2.2.2 q.1 Rat.le_refl (fix_of g hq.1).2.1) hj hj' e).2
  · refine List.Pairwise.imp_of_mem (fun {i i'} _ _ hii x hx y hy e => ?_) (List.Pairwise.filter _ (List.nodup_range (n := k)))
    obtain ⟨w, hw, hxw⟩ := List.mem_flatten.mp hx
    obtain ⟨w', hw', hyw⟩ := List.mem_flatten.mp hy
    obtain ⟨p, hp, hr, rfl⟩ := rdsK_iff.mp hw
    obtain ⟨q, hq, hr', rfl⟩ := rdsK_iff.mp hw'
    obtain ⟨j, hj, rfl⟩ := mem_wayR.mp hxw
    obtain ⟨j', hj', rfl⟩ := mem_wayR.mp hyw
    have := (rd_meet hr ((fix_of g hp).2.2.2 p.1 Rat.le_refl (fix_of g hp).2.1) hr' ((fix_of g hq).2.2.2 q.1 Rat.le_refl (fix_of g hq).2.1) hj hj' e).1
    exact hii (by omega)
theorem flatten_len {n k : Nat} : ∀ {ws : List (List Rat)}, (∀ w ∈ ws, w.length ≤ n) → ws.length ≤ k → ws.flatten.length ≤ k * n
  | [], _, _ => by simp
  | w :: ws, h, hk => by
    have h1 := h w List.mem_cons_self
    simp only [List.length_cons] at hk
    have ih := flatten_len (n := n) (k := k - 1) (ws := ws) (fun w hw => h w (List.mem_cons_of_mem _ hw)) (by omega)
    rw [List.flatten_cons, List.length_append]
    have : k * n = (k - 1) * n + n := by
      conv => lhs; rw [show k = (k - 1) + 1 by omega]
      rw [Nat.add_mul, Nat.one_mul]
    omega
/-- two rows made new -/
theorem enc_eqNN {α : Type} [DecidableEq α] {n : Nat} {f : α → D} {g : α → PyData} (h : Enc n f g) {m : Mu} {xs ys : List α} {neg : Bool} {R : DK} (hR : R (.bl (xor neg (decide (xs = ys)))) m) (hn : n ≤ deep := by decide) : gEqNN neg (xs.map f) (ys.map f) m R := by
  rw [gEqNN_, pyAll_map (fun y => h.py m deep y hn) xs, optK_some, pyAll_map (fun y => h.py m deep y hn) ys, optK_some]
  show R (.bl (xor neg (PyData.eqv (.list (xs.map g)) (.list (ys.map g))))) m
  have e : PyData.eqv (.list (xs.map g)) (.list (ys.map g)) = decide (xs = ys) := by
    rw [← eqvAll_map h.eqv xs ys]
    simp [PyData.eqv]
  rw [e]
  exact hR
/-! ### lone points, stretches led by a turn, laps -/
theorem ivtL_ln {a b : Kn} {s t v : Rat} (st : s ≤ t) (h : (ln a b s ≤ v ∧ v ≤ ln a b t) ∨ (ln a b t ≤ v ∧ v ≤ ln a b s)) : ∃ u, s ≤ u ∧ u ≤ t ∧ ln a b u = v := by
  by_cases c0 : slp a b = 0
  · have k : ∀ p, ln a b p = a.2 := by
      intro p
      unfold ln
      rw [c0]
      grind
    refine ⟨s, Rat.le_refl, st, ?_⟩
    rw [k, k] at h
    rw [k]
    grind
  · have e : ln a b (a.1 + (v - a.2) / slp a b) = v := by
      unfold ln
      have : slp a b * ((v - a.2) / slp a b) = v - a.2 := by rw [Rat.mul_comm, Rat.div_mul_cancel c0]
      grind
    refine ⟨_, ?_, ?_, e⟩
    · rcases rlt (a.1 + (v - a.2) / slp a b) s with q | q
      · rcases rlt 0 (slp a b) with c | c
        · have m1 := (ln_mono (a := a) (b := b) c).mpr q
          have m2 : ¬ ln a b t < ln a b s := fun z => by have := (ln_mono (a := a) (b := b) c).mp z; grind
          grind
        · have c' : slp a b < 0 := by grind
          have m1 := (ln_anti (a := a) (b := b) c').mpr q
          have m2 : ¬ ln a b s < ln a b t := fun z => by have := (ln_anti (a := a) (b := b) c').mp z; grind
          grind
      · exact q
    · rcases rlt t (a.1 + (v - a.2) / slp a b) with q | q
      · rcases rlt 0 (slp a b) with c | c
        · have m1 := (ln_mono (a := a) (b := b) c).mpr q
          have m2 : ¬ ln a b t < ln a b s := fun z => by have := (ln_mono (a := a) (b := b) c).mp z; grind
          grind
        · have c' : slp a b < 0 := by grind
          have m1 := (ln_anti (a := a) (b := b) c').mpr q
          have m2 : ¬ ln a b s < ln a b t := fun z => by have := (ln_anti (a := a) (b := b) c').mp z; grind
          grind
      · exact q
theorem ivtL : ∀ (l : List Kn) (a : Kn) {s t v : Rat}, Inc (a :: l) → s ≤ t → (valK (a :: l) s ≤ v ∧ v ≤ valK (a :: l) t) ∨ (valK (a :: l) t ≤ v ∧ v ≤ valK (a :: l) s) → ∃ u, s ≤ u ∧ u ≤ t ∧ valK (a :: l) u = v
  | [], a, s, t, v, _, st, h => ⟨s, Rat.le_refl, st, by rw [valK, valK] at h; rw [valK]; grind⟩
  | b :: l, a, s, t, v, hi, st, h => by
    have hlt := hi.lt
    have V : ∀ p, valK (a :: b :: l) p = if b.1 < p then valK (b :: l) p else ln a b p := by
      intro p
      rw [valK, ln_eq hlt]
    have vb := val_head hi.tail
    have lb : ln a b b.1 = b.2 := ln_r hlt
    rcases rlt b.1 s with q | q
    · rw [V s, V t, if_pos q, if_pos (by grind)] at h
      obtain ⟨u, u1, u2, e⟩ := ivtL l b hi.tail st h
      exact ⟨u, u1, u2, by rw [V u, if_pos (by grind)]; exact e⟩
    · rcases rlt b.1 t with q2 | q2
      · rw [V s, V t, if_neg (by grind), if_pos q2] at h
        by_cases c : (ln a b s ≤ v ∧ v ≤ b.2) ∨ (b.2 ≤ v ∧ v ≤ ln a b s)
        · rw [← lb] at c
          obtain ⟨u, u1, u2, e⟩ := ivtL_ln q c
          exact ⟨u, u1, by grind, by rw [V u, if_neg (by grind)]; exact e⟩
        · obtain ⟨u, u1, u2, e⟩ := ivtL l b (s := b.1) (t := t) (v := v) hi.tail (Rat.le_of_lt q2) (by rw [vb]; grind)
          rcases rlt b.1 u with q3 | q3
          · exact ⟨u, by grind, u2, by rw [V u, if_pos q3]; exact e⟩
          · have eu : u = b.1 := by grind
            refine ⟨u, by grind, u2, ?_⟩
            rw [V u, if_neg (by grind), eu, lb, ← vb, ← eu]
            exact e
      · rw [V s, V t, if_neg (by grind), if_neg (by grind)] at h
        obtain ⟨u, u1, u2, e⟩ := ivtL_ln st h
        exact ⟨u, u1, u2, by rw [V u, if_neg (by grind)]; exact e⟩
/-! rows of stretches -/
theorem Canon.meet {ps : List Kn} (c : Canon ps) {p q : Kn} (hp : p ∈ ps) (hq : q ∈ ps) {x : Rat} (p1 : p.1 ≤ x) (p2 : x ≤ p.2) (q1 : q.1 ≤ x) (q2 : x ≤ q.2) : p = q := by
  induction ps with
  | nil => simp at hp
  | cons a l ih =>
    rcases List.mem_cons.mp hp with e | hp2
    · subst e
      rcases List.mem_cons.mp hq with e | hq2
      · exact e.symm
      · have := c.above ⟨q, hq2, q1, q2⟩
        grind
    · rcases List.mem_cons.mp hq with e | hq2
      · subst e
        have := c.above ⟨p, hp2, p1, p2⟩
        grind
      · exact ih c.tail hp2 hq2
theorem Canon.conn {ps : List Kn} (c : Canon ps) {s t : Rat} (st : s ≤ t) (h : ∀ v, s ≤ v → v ≤ t → InU ps v) : ∃ q ∈ ps, q.1 ≤ s ∧ t ≤ q.2 := by
  induction ps with
  | nil => exact absurd (h s Rat.le_refl st) inU_nil
  | cons a l ih =>
    rcases rlt a.2 s with q | q
    · obtain ⟨p, hp, p1, p2⟩ := ih c.tail fun v v1 v2 => by
        rcases inU_cons.mp (h v v1 v2) with z | z
        · grind
        · exact z
      exact ⟨p, List.mem_cons_of_mem _ hp, p1, p2⟩
    · rcases rlt a.2 t with q2 | q2
      · obtain ⟨x, x1, x2, x3⟩ := c.gap q2
        exact absurd (h x (by grind) x2) x3
      · exact ⟨a, by simp, c.head_le (h s Rat.le_refl st), q2⟩
section
variable {L U : Rat} {ks tk a : List Kn}
end
section
variable {L U : Rat} {ks tk : List Kn}
end
def cumW (ws : List Rat) : Nat → Rat
  | 0 => 0
  | k + 1 => cumW ws k + pt ws k
structure ShOk (ps ws : List Rat) : Prop where
  ris : Ris ps
  len : ps.length = ws.length + 1
  few : ws.length ≤ 60
  bp : ∀ p ∈ ps, Bd 40 p
  bw : ∀ w ∈ ws, Bd 12 w
  bc : ∀ k, k ≤ ws.length → Bd 12 (cumW ws k)
/-! ### maps with a parting -/
structure PrtK (ks : List Kn) (S : List Rat) : Prop where
  map : MpA ks
  ris : Ris S
  two : 2 ≤ S.length
  few : S.length ≤ 13
  bd : ∀ y ∈ S, Bd 40 y
  head : S.head? = some (loK ks)
  last : S.getLast? = some (hiK ks)
/-! ### maps with one hump -/
/-- one hump: up to the knot t, down from it -/
structure Hump (ks : List Kn) (t : Kn) : Prop where
  sp : ∃ A B : List Kn, ks = A ++ t :: B ∧ A ≠ [] ∧ B ≠ [] ∧ (A ++ [t]).Pairwise (fun a b => a.2 < b.2) ∧ (t :: B).Pairwise (fun a b => b.2 < a.2)
/-- the values rise up to x and fall from there -/
structure HumpF (ks : List Kn) (x : Rat) : Prop where
  lo : loK ks < x
  hi : x < hiK ks
  up : ∀ s t, loK ks ≤ s → s < t → t ≤ x → valK ks s < valK ks t
  dn : ∀ s t, x ≤ s → s < t → t ≤ hiK ks → valK ks t < valK ks s
theorem hiK_app {A B : List Kn} (h : B ≠ []) : hiK (A ++ B) = hiK B := by
  obtain ⟨z, hz⟩ : ∃ z, B.getLast? = some z := by
    cases e : B.getLast? with
    | none => rw [List.getLast?_eq_none_iff] at e; exact absurd e h
    | some z => exact ⟨z, rfl⟩
  rw [hiK_lastK hz, hiK_lastK (z := z)]
  rw [List.getLast?_append, hz]
  rfl
theorem HumpF.kn {ks : List Kn} {x : Rat} (hi : Inc ks) (h2 : 2 ≤ ks.length) (h : HumpF ks x) : ∃ t, Hump ks t ∧ t.1 = x := by
  have hx : ∃ t ∈ ks, t.1 = x := by
    obtain ⟨p, hp, a, b⟩ := piece_of hi h2 (Rat.le_of_lt h.lo) Rat.le_refl (Rat.le_of_lt h.hi) (fun j hj => by grind)
    by_cases e1 : p.1.1 = x
    · exact ⟨_, (pairs_mem hp).1, e1⟩
    by_cases e2 : p.2.1 = x
    · exact ⟨_, (pairs_mem hp).2, e2⟩
    exfalso
    have lt := pairs_lt hi hp
    have k1 := loK_le hi (pairs_mem hp).1
    have k2 := le_hiK hi (pairs_mem hp).2
    have u := h.up p.1.1 x k1 (by grind) Rat.le_refl
    have d := h.dn x p.2.1 Rat.le_refl (by grind) k2
    rw [val_piece hi hp Rat.le_refl (by grind), val_piece hi hp a b] at u
    rw [val_piece hi hp (by grind) Rat.le_refl, val_piece hi hp a b] at d
    rcases rlt 0 (slp p.1 p.2) with c | c
    · have := (ln_mono (s := x) (t := p.2.1) c).mpr (by grind)
      grind
    · have h0 : slp p.1 p.2 * (x - p.1.1) ≤ 0 := by
        have := Rat.mul_nonneg (a := - slp p.1 p.2) (b := x - p.1.1) (by grind) (by grind)
        grind
      unfold ln at u
      grind
  obtain ⟨t, ht, rfl⟩ := hx
  obtain ⟨A, B, rfl⟩ := List.append_of_mem ht
  have hB : hiK (A ++ t :: B) = hiK (t :: B) := hiK_app (by simp)
  refine ⟨t, ⟨A, B, rfl, ?_, ?_, ?_, ?_⟩, rfl⟩
  · rintro rfl
    have := h.lo
    rw [List.nil_append, loK_cons] at this
    grind
  · rintro rfl
    have := h.hi
    rw [hiK_lastK (z := t) (by simp)] at this
    grind
  · have e : A ++ t :: B = (A ++ [t]) ++ B := by simp
    have i1 : (A ++ [t]).Pairwise fun a b => a.1 < b.1 := by
      have hi := hi
      rw [e] at hi
      exact (List.pairwise_append.mp hi).1
    refine i1.imp_of_mem fun {a b} ha hb hab => ?_
    have ma : a ∈ A ++ t :: B := by rw [e]; exact List.mem_append_left _ ha
    have mb : b ∈ A ++ t :: B := by rw [e]; exact List.mem_append_left _ hb
    have bt : b.1 ≤ t.1 := by
      have := le_hiK i1 hb
      rw [hiK_lastK (z := t) (by simp)] at this
      exact this
    have := h.up a.1 b.1 (loK_le hi ma) hab bt
    rwa [val_mem hi h2 ma, val_mem hi h2 mb] at this
  · have i2 : (t :: B).Pairwise fun a b => a.1 < b.1 := (List.pairwise_append.mp hi).2.1
    refine i2.imp_of_mem fun {a b} ha hb hab => ?_
    have ma : a ∈ A ++ t :: B := List.mem_append_right _ ha
    have mb : b ∈ A ++ t :: B := List.mem_append_right _ hb
    have := h.dn a.1 b.1 (Inc.le i2 ha) hab (le_hiK hi mb)
    rwa [val_mem hi h2 ma, val_mem hi h2 mb] at this
def HL (l : List Int) (r : Nat) : Prop := 0 < r ∧ r < l.length ∧ l = List.replicate r 1 ++ List.replicate (l.length - r) (-1)
instance (l : List Int) (r : Nat) : Decidable (HL l r) := by unfold HL; infer_instance
theorem pairs_at {α : Type} : ∀ {l : List α} {j : Nat} (h : j + 1 < l.length), (pairs l)[j]? = some (l[j], l[j + 1])
  | a :: b :: l, 0, _ => by rw [pairs_cons]; rfl
  | a :: b :: l, j + 1, h => by
    rw [pairs_cons]
    have := pairs_at (l := b :: l) (j := j) (by simpa using h)
    simpa using this
/-- a span: two ends, and whether each is in it -/
structure Spn where
  lo : Rat
  li : Bool
  hi : Rat
  hin : Bool
structure Spn.Ok (L U : Rat) (s : Spn) : Prop where
  l : L ≤ s.lo
  u : s.hi ≤ U
  f : s.lo < s.hi ∨ (s.lo = s.hi ∧ s.li = true ∧ s.hin = true)
section
variable {ks : List Kn} {x L U : Rat}
end
theorem Wd.tail {a b : List Nat} (h : Wd (a ++ b)) : Wd b := fun c hc => h c (List.mem_append_right _ hc)
section
variable {L U : Rat} {ks : List Kn} {ps : List Rat}
end
section
variable {L U : Rat} {ks : List Kn} {ps : List Rat}
def InW (ps : List Rat) (w : List Nat) : Prop := ∀ a ∈ w, a + 1 < ps.length
end
/-! sizes -/
def LCW (be N C : Nat) (S T : Rat) : Prop := ∃ (P : Int) (D : Nat) (c : Int), 0 < D ∧ D ≤ N ∧ P.natAbs ≤ N ∧ c.natAbs ≤ C ∧ (D : Rat) * S = (P : Rat) ∧ (D : Rat) * be * T = (c : Rat)
theorem LCW.mono {be N C N' C' : Nat} {S T : Rat} (h : LCW be N C S T) (hN : N ≤ N') (hC : C ≤ C') : LCW be N' C' S T := by
  obtain ⟨P, D, c, d0, dN, pN, cC, e1, e2⟩ := h
  exact ⟨P, D, c, d0, by omega, by omega, by omega, e1, e2⟩
theorem InW.sub {ps : List Rat} {w v : List Nat} (h : InW ps w) (hs : ∀ a ∈ v, a ∈ w) : InW ps v := fun a ha => h a (hs a ha)
section
variable {L U : Rat} {ks : List Kn} {ps : List Rat}
end

/-! ### lines of loops -/
abbrev Ln4 := Rat × Rat × Rat × Rat
structure LnOk (φ : Rat → Rat) (S : Rat → Prop) (Ls : List Ln4) : Prop where
  on : ∀ l ∈ Ls, l.1 ≤ l.2.1 ∧ ∀ x, l.1 ≤ x → x ≤ l.2.1 → S x ∧ l.2.2.1 * x + l.2.2.2 = φ x
  all : ∀ x, S x → ∃ l ∈ Ls, l.1 ≤ x ∧ x ≤ l.2.1
section
variable {L U : Rat} {ks : List Kn} {φ : Rat → Rat} {S : Rat → Prop} {Ls : List Ln4}
end
structure LnSz (be j : Nat) (l : Ln4) : Prop where
  b : Bd 1400 l.1
  e : Bd 1400 l.2.1
  c : LCW be (2 ^ (21 * j)) (j * 2 ^ (21 * j + 180)) l.2.2.1 l.2.2.2
theorem sgLe {p q : Rat} : sgQ p q ≤ 0 ↔ p ≤ q := by
  constructor
  · intro h
    rcases rlt q p with c | c
    · have := sg_pos.mpr c
      omega
    · exact c
  · intro h
    rcases Int.lt_or_le 0 (sgQ p q) with c | c
    · have := sg_pos.mp c
      grind
    · exact c
/-! ### sizes of drawn loops -/
structure LpSt (ks : List Kn) (be e : Nat) (s : Kn) : Prop where
  lo : loK ks ≤ s.1
  le : s.1 ≤ s.2
  hi : s.2 ≤ hiK ks
  d1 : DF be (2 ^ e) s.1
  d2 : DF be (2 ^ e) s.2
theorem LpSt.mono {ks : List Kn} {be e f : Nat} {s : Kn} (h : LpSt ks be e s) (hf : e ≤ f) : LpSt ks be f s := by
  have p : 2 ^ e ≤ 2 ^ f := Nat.pow_le_pow_right (by decide) hf
  exact ⟨h.lo, h.le, h.hi, h.d1.mono p, h.d2.mono p⟩
theorem LpSt.range {ks : List Kn} (hk : KnC ks) {be e : Nat} (b1 : 0 < be) (pf : PF1 be (2 ^ 21) ks) {s : Kn} (h : LpSt ks be e s) : LpSt ks be (e + 21) (rangeK ks s.1 s.2) := by
  have := Stz.range hk.good (pf.pf (by decide)) b1 (Nat.pow_pos (by decide)) (⟨h.lo, h.le, h.hi, h.d1, h.d2⟩ : Stz (loK ks) (hiK ks) be (2 ^ e) s)
  rw [← Nat.pow_add] at this
  exact ⟨this.lo, this.le, this.hi, this.d1, this.d2⟩
/-! ### a loop has a point -/
/-- between two points whose values hold c and d there are two of the values c and d with all between them within -/
theorem ivtK {ks : List Kn} (g : Good (loK ks) (hiK ks) ks) {s t v : Rat} (st : s ≤ t) (h : (valK ks s ≤ v ∧ v ≤ valK ks t) ∨ (valK ks t ≤ v ∧ v ≤ valK ks s)) : ∃ u, s ≤ u ∧ u ≤ t ∧ valK ks u = v := by
  cases ks with
  | nil => exact absurd g.len (by simp)
  | cons a l => exact ivtL l a g.inc st h
/-- a round's points -/
structure RdOk (ks : List Kn) (ps : List Rat) : Prop where
  two : 2 ≤ ps.length
  five : ps.length ≤ 5
  nd : ps.Nodup
  df : ∃ be : Nat, 0 < be ∧ be ≤ 2 ^ 20 ∧ PF1 be (2 ^ 21) ks ∧ ∀ p ∈ ps, DF be (2 ^ 211) p
  wi : ∀ p ∈ ps, Within ks 300 p
structure LpK (ks : List Kn) (sts : List Kn) : Prop where
  k2 : 2 ≤ ks.length
  kl : ks.length ≤ 100000
  inc : Inc ks
  bd : BdK 100 ks
  wi : ∀ s ∈ sts, Within ks 300 s.1 ∧ Within ks 300 s.2 ∧ s.1 ≤ s.2
  one : 1 ≤ sts.length
  four : sts.length ≤ 4
/-! ### rows of anything by address -/
def RowsX (m : Mu) (a : Addr) (n : Nat) (F : Nat → List D) : Prop := ∃ rs : List Addr, m a = some (.lst (rs.map D.ref)) ∧ rs.length = n ∧ ∀ (i : Nat) (hi : i < rs.length), m rs[i] = some (.lst (F i))
theorem RowsX.sub {m m' : Mu} {a : Addr} {n : Nat} {F : Nat → List D} (h : RowsX m a n F) (hs : Sub m m') : RowsX m' a n F := by
  obtain ⟨rs, h1, h2, h3⟩ := h
  exact ⟨rs, hs _ _ h1, h2, fun i hi => hs _ _ (h3 i hi)⟩
section
variable {ks : List Kn} {T : List Rat}
end
theorem fix_iff {ks : List Kn} (g : Good (loK ks) (hiK ks) ks) {d : Nat} {x : Rat} : (loK ks ≤ x ∧ x ≤ hiK ks ∧ iterV ks d x = x) ↔ InU (noughtsK (stayR (turnK ks d))) x := by
  obtain ⟨_, i⟩ := stays_in (turnK_good g d)
  rw [i x]
  constructor
  · rintro ⟨h1, h2, h3⟩
    exact ⟨h1, h2, by rw [turnK_val g h1 h2]; exact h3⟩
  · rintro ⟨h1, h2, h3⟩
    exact ⟨h1, h2, by rw [← turnK_val g h1 h2 d]; exact h3⟩
/-! texts laid anew (replace) in a def with arguments; objects made without arguments; methods asked by names -/
section
variable {X : Cx} {o e : Expr} {es : List Expr} {te to : DTE} {ta : DTA} {p pos apos : Pos} {x c : Str}
structure DET (X : Cx) (e : Expr) (t : DTE) : Prop where
  p : PET X e (lE X.K t)
structure DST (X : Cx) (st : Stmt) (t : DTS) : Prop where
  p : PST X st (lS X.K t)
structure DSsT (X : Cx) (b : List Stmt) (t : DTS) : Prop where
  p : PSsT X b (lS X.K t)
end
section
variable {P : Program} {w : World} {K : PySem.W.Frag} {mg : Str → Option Value} {base : Heap} {c mn x qual : Str} {st : Stmt} {N ps : List Str} {k : Nat} {sp : DSp} {t : DTS}
/-- a method of the text, its def told -/
structure DefMK (P : Program) (w : World) (K : PySem.W.Frag) (mg : Str → Option Value) (base : Heap) (c mn qual : Str) (st : Stmt) (k : Nat) (ps : List Str) (sp : DSp) : Prop where
  ex : ∃ (C f : Addr) (fd : FuncData), clsAt K c C ∧ Cls K C ∧ Meth K C mn f ∧ FnOk P w K mg base CX0 k f fd ps (lSp K sp) ∧ Fun K mn qual st f fd
end
section
variable {X : Cx} {o e : Expr} {es : List Expr} {te to : DTE} {p pos apos : Pos} {c mn qual : Str} {st : Stmt}
end
section
variable {φ : Rat → Rat} {S : Rat → Prop} {Ls : List Ln4} {ps : List Kn}
end
def hdLt (a b : List Rat) : Prop := a.headD 0 < b.headD 0
theorem way_head {ks : List Kn} {x : Rat} {n : Nat} (n1 : 1 ≤ n) : (wayR ks x n).headD 0 = x := by
  obtain ⟨n, rfl⟩ : ∃ k, n = k + 1 := ⟨n - 1, by omega⟩
  unfold wayR
  rw [List.range_succ_eq_map]
  rfl
open Classical in
theorem rds_rise {ks : List Kn} (g : Good (loK ks) (hiK ks) ks) {n : Nat} (n1 : 1 ≤ n) : (rdsK ks n).Pairwise hdLt := by
  have hc : Canon (noughtsK (stayR (turnK ks n))) := (stays_in (turnK_good g n)).1
  unfold rdsK rdsP
  rw [List.pairwise_map]
  have := hc.2.imp_of_mem (S := fun p q : Kn => p.1 < q.1) (fun {p q} hp hq h => by have := hc.1 p hp; grind)
  refine (this.filter _).imp fun {p q} h => ?_
  unfold hdLt
  rw [way_head n1, way_head n1]
  exact h
/-! ### sizes of what comes to a level, without numbers -/
structure MetB (b e : Kn) (lv : Rat) : Prop where
  b1 : Bd 4000 b.1
  b2 : Bd 4000 b.2
  e1 : Bd 4000 e.1
  e2 : Bd 4000 e.2
  l : Bd 4000 lv
  n : Bd 4000 (lv - b.2)
  d : Bd 4000 (e.2 - b.2)
  w : Bd 4000 (e.1 - b.1)
  q : Bd 4000 ((lv - b.2) / (e.2 - b.2))
  r : Bd 4000 ((lv - b.2) / (e.2 - b.2) * (e.1 - b.1))
  m : Bd 4000 (metK b e lv)
structure NtC (rows : List Kn) : Prop where
  kn : ∀ k ∈ rows, Bd 4000 k.1 ∧ Bd 4000 k.2
  met : ∀ p ∈ pairs rows, p.1.2 ≠ p.2.2 → MetB p.1 p.2 0
structure IcB (ks : List Kn) (low high : Rat) : Prop where
  kn : ∀ k ∈ ks, Bd 4000 k.1 ∧ Bd 4000 k.2
  lo : Bd 4000 low
  hi : Bd 4000 high
  met : ∀ p ∈ pairs ks, p.1.2 ≠ p.2.2 → ∀ lv, lv = p.1.2 ∨ lv = p.2.2 ∨ lv = low ∨ lv = high → MetB p.1 p.2 lv
/-- sizes of a value -/
def ValB (ks : List Kn) (p : Rat) : Prop := ∃ n k, BdK n ks ∧ Bd k p ∧ 6 * n + k + 10 ≤ 4000
theorem ValB.val {ks : List Kn} {p : Rat} (h : ValB ks p) (hi : Inc ks) (h2 : 2 ≤ ks.length) (p1 : loK ks ≤ p) (p2 : p ≤ hiK ks) : Bd 4000 (valK ks p) := by
  obtain ⟨n, k, h1, h3, h4⟩ := h
  exact (val_bd hi h2 h1 h3 p1 p2).mono (by omega)
theorem ValB.kn {ks : List Kn} {p : Rat} (h : ValB ks p) : BdK 4000 ks := by
  obtain ⟨n, k, h1, h3, h4⟩ := h
  exact h1.mono (by omega)
/-! ### maps by x turned to - x; what comes back; ranges of turned maps -/
def mirK (ks : List Kn) : List Kn := (ks.map fun k => (-k.1, -k.2)).reverse
theorem mirK_good {L U : Rat} {ks : List Kn} (g : Good L U ks) : Good (-U) (-L) (mirK ks) := by
  refine ⟨by unfold mirK; simp; exact g.len, ?_, ?_, ?_, ?_⟩
  · unfold Inc mirK
    rw [List.pairwise_reverse, List.pairwise_map]
    exact g.inc.imp fun {a b} h => by
      show -b.1 < -a.1
      have : a.1 < b.1 := h
      grind
  · unfold mirK
    rw [loK_rev]
    obtain ⟨z, gz, zU, _⟩ := g.last
    rw [hiK_lastK (z := (-z.1, -z.2)) (by rw [List.getLast?_map, gz]; rfl)]
    show -z.1 = -U
    grind
  · unfold mirK
    rw [hiK_rev]
    match ks, g with
    | a :: l, g =>
      show -a.1 = -L
      have := g.head
      grind
  · intro k hk
    unfold mirK at hk
    rw [List.mem_reverse] at hk
    obtain ⟨z, hz, rfl⟩ := List.mem_map.mp hk
    have := g.rng z hz
    constructor <;> grind
theorem mirK_val {L U : Rat} {ks : List Kn} (g : Good L U ks) {t : Rat} (t1 : -U ≤ t) (t2 : t ≤ -L) : valK (mirK ks) t = -valK ks (-t) := by
  have gf := mirK_good g
  obtain ⟨q, hq, q1, q2, e⟩ := g.piece (t := -t) (by grind) (by grind)
  have qlt := pairs_lt g.inc hq
  have hm : (((-q.2.1, -q.2.2), (-q.1.1, -q.1.2)) : Kn × Kn) ∈ pairs (mirK ks) := by
    unfold mirK
    refine pairs_rev (p := ((-q.1.1, -q.1.2), (-q.2.1, -q.2.2))) ?_
    rw [pairs_map]
    exact List.mem_map.mpr ⟨q, hq, rfl⟩
  rw [val_piece gf.inc hm (by show -q.2.1 ≤ t; grind) (by show t ≤ -q.1.1; grind), e]
  have sm := slp_mul qlt
  have hs : slp (-q.2.1, -q.2.2) (-q.1.1, -q.1.2) = slp q.1 q.2 := by
    unfold slp
    show (-q.1.2 - (-q.2.2)) / (-q.1.1 - (-q.2.1)) = _
    have e1 : -q.1.2 - (-q.2.2) = q.2.2 - q.1.2 := by grind
    have e2 : -q.1.1 - (-q.2.1) = q.2.1 - q.1.1 := by grind
    rw [e1, e2]
  unfold ln
  rw [hs]
  show -q.2.2 + slp q.1 q.2 * (t - (-q.2.1)) = -(q.1.2 + slp q.1 q.2 * (-t - q.1.1))
  grind
theorem bd_neg {n : Nat} {q : Rat} (h : Bd n q) : Bd n (-q) := by
  refine ⟨?_, ?_⟩
  · have := h.1
    rw [Rat.neg_num, Int.natAbs_neg]
    exact this
  · have := h.2
    rw [Rat.neg_den]
    exact this
theorem mirK_bd {n : Nat} {ks : List Kn} (h : BdK n ks) : BdK n (mirK ks) := fun k hk => by
  unfold mirK at hk
  rw [List.mem_reverse] at hk
  obtain ⟨z, hz, rfl⟩ := List.mem_map.mp hk
  exact ⟨bd_neg (h z hz).1, bd_neg (h z hz).2⟩
theorem MpA.mir {ks : List Kn} (h : MpA ks) : MpA (mirK ks) := by
  have g := mirK_good h.good
  have hl : loK (mirK ks) = -hiK ks := g.lo
  have hh : hiK (mirK ks) = -loK ks := g.hi
  exact ⟨by rw [hl, hh]; exact g, mirK_bd h.bd⟩
def mirP (ps : List Kn) : List Kn := (ps.map fun p => (-p.2, -p.1)).reverse
theorem mirP_in {ps : List Kn} {x : Rat} : InU (mirP ps) x ↔ InU ps (-x) := by
  constructor
  · rintro ⟨p, hp, p1, p2⟩
    unfold mirP at hp
    rw [List.mem_reverse] at hp
    obtain ⟨q, hq, rfl⟩ := List.mem_map.mp hp
    have p1 : -q.2 ≤ x := p1
    have p2 : x ≤ -q.1 := p2
    exact ⟨q, hq, by grind, by grind⟩
  · rintro ⟨q, hq, q1, q2⟩
    refine ⟨(-q.2, -q.1), ?_, ?_, ?_⟩
    · unfold mirP
      rw [List.mem_reverse]
      exact List.mem_map.mpr ⟨q, hq, rfl⟩
    · show -q.2 ≤ x
      grind
    · show x ≤ -q.1
      grind
theorem mirP_canon {ps : List Kn} (h : Canon ps) : Canon (mirP ps) := by
  constructor
  · intro p hp
    unfold mirP at hp
    rw [List.mem_reverse] at hp
    obtain ⟨q, hq, rfl⟩ := List.mem_map.mp hp
    have := h.1 q hq
    show -q.2 ≤ -q.1
    grind
  · unfold mirP
    rw [List.pairwise_reverse, List.pairwise_map]
    refine h.2.imp fun {p q} hpq => ?_
    show -q.1 < -p.2
    grind
/-! ranges -/
def SwM (L U : Rat) (s : Kn) : Prop := L ≤ s.1 ∧ s.1 ≤ s.2 ∧ s.2 ≤ U
section
variable {L U : Rat} {ks : List Kn}
theorem SwM.range (g : Good L U ks) {s : Kn} (hs : SwM L U s) : SwM L U (rangeK ks s.1 s.2) := range_rng g hs.1 hs.2.1 hs.2.2
end
theorem fr_negD (q : Rat) : D.tup [D.int (0 - q.num), D.int (q.den : Nat)] = fr (-q) := by
  unfold fr
  rw [Rat.neg_num, Rat.neg_den, Int.zero_sub]
/-! ### sorted of data: a list or a tuple whose items are of one kind -/
theorem gone_of {h h' : Heap} (k : ∀ (b : Addr) (o : Obj), h.get? b = some o → h'.get? b = some o) : h.get? h'.objs.size = none := by
  cases e : h.get? h'.objs.size with
  | none => rfl
  | some o => exact absurd (Heap.lt_size (k _ _ e)) (Nat.lt_irrefl _)
theorem sorted_seq {prog : Program} {w : World} {A : Around} {E : Value → Shared → Prop} {s : Shared} {l : Addr} {T : String} {o : Obj} {n : Nat} {vs : List Value} {Q : Value → Shared → Prop}
    (hT : T = "list" ∨ T = "tuple") (ho : s.heap.get? l = some o) (hc : o.cls = .type T) (hd : o.data = .seq vs.toArray n) (hL : vs.length ≤ sizeLine)
    (S : ∀ h1 : Heap, (∀ (b : Addr) (o' : Obj), s.heap.get? b = some o' → h1.get? b = some o') → ∃ κ, W.SortsAt prog w (Around.in1 (Around.in1 A)) { s with heap := h1 } κ vs ∧ (∀ (h2 : Heap) (d : Addr) (e : Nat), (∀ (b : Addr) (o' : Obj), s.heap.get? b = some o' → h2.get? b = some o') → s.heap.get? d = none → h2.get? d = some (seqObj "list" (W.sortVals κ false vs vs).toArray e) → Q (.ref d) { s with heap := h2 })) :
    wpAny (model prog w) A (call (.builtin "sorted") [.ref l]) Q E s := by
  refine call_function_entry_kw kind_sorted plain_sorted entry_sorted (args_sorted1 _) ?_
  refine wpAny_bind (wpAny_pure (wpAny_bind (wpAny_collect_seq l hT ho hc hd (fun h' keep => wpAny_bind (wpAny_newList ?_ hL)) (by rw [List.size_toArray]; exact hL))))
  have hn := gone_of keep
  have at_ : (h'.push (seqObj "list" vs.toArray 0)).get? h'.objs.size = some (seqObj "list" vs.toArray 0) := Heap.get?_push_size _ rfl
  have old : ∀ (b : Addr) (o' : Obj), s.heap.get? b = some o' → b ≠ h'.objs.size ∧ (h'.push (seqObj "list" vs.toArray 0)).get? b = some o' := fun b o' e => ⟨(fun q => by rw [q, hn] at e; cases e), Heap.get?_push_of_some _ (keep b o' e)⟩
  have k1 : ∀ (b : Addr) (o' : Obj), s.heap.get? b = some o' → (W.sortingHeap (h'.push (seqObj "list" vs.toArray 0)) h'.objs.size vs).get? b = some o' := fun b o' e => by
    obtain ⟨q, e1⟩ := old b o' e
    unfold W.sortingHeap
    exact Heap.get?_push_of_some _ (Heap.get?_push_of_some _ ((Heap.get?_update_other _ _ (Ne.symm q)).trans e1))
  obtain ⟨κ, S1, S2⟩ := S _ k1
  refine wpAny_bind (wpAny_holding (wpAny_call_entry_kw slot_list_sort ⟨_, at_, rfl⟩ entry_list_sort ?_ (args_list_sort _)))
  refine W.list_sort_vals (vs := vs) (n := 0) at_ S1 hL ⟨_, rfl, wpAny_pure ⟨_, rfl, ?_⟩⟩
  obtain ⟨e, he⟩ := sortedHeap_at (vs := vs) (out := (W.sortVals κ false vs vs).toArray) at_
  refine S2 _ _ e (fun b o' q => ?_) hn he
  obtain ⟨q1, q2⟩ := old b o' q
  exact (sortedHeap_old q1 (Heap.lt_size q2)).trans q2
theorem each_paired {β : Type} {f : β → V} : ∀ {bs : List β} {us : List Value}, Vals (bs.map f) us → W.EachIs (fun u b => RelV (f b) u) us bs
  | [], us, h => by cases h; exact .nil
  | b :: bs, us, h => by
    cases h with
    | cons h1 h2 => exact .cons h1 (each_paired h2)
theorem paired_each {β : Type} {f : β → V} : ∀ {us : List Value} {bs : List β}, W.EachIs (fun u b => RelV (f b) u) us bs → Vals (bs.map f) us
  | _, _, .nil => .nil
  | _, _, .cons h1 h2 => .cons h1 (paired_each h2)
theorem each_with {α β : Type} {R S : α → β → Prop} {P : β → Prop} (h : ∀ a b, P b → R a b → S a b) : ∀ {as : List α} {bs : List β}, (∀ b ∈ bs, P b) → W.EachIs R as bs → W.EachIs S as bs
  | _, _, _, .nil => .nil
  | _, _, hp, .cons h1 h2 => .cons (h _ _ (hp _ List.mem_cons_self) h1) (each_with h (fun b hb => hp b (List.mem_cons_of_mem _ hb)) h2)
theorem obj_some {P : Program} {w : World} {H : Hp} {h : Heap} {a : Addr} {o : HO} (x : ObjOk P w H h a o) : ∃ u, h.get? a = some u := by
  cases o with
  | lst xs => obtain ⟨_, _, _, _, e⟩ := x; exact ⟨_, e⟩
  | tup xs => obtain ⟨_, _, _, o, e, _⟩ := x; exact ⟨_, e⟩
  | dK kvs => obtain ⟨_, _, _, _, o, _, _, e, _⟩ := x; exact ⟨_, e⟩
  | dT kvs => obtain ⟨_, _, _, _, o, _, _, e, _⟩ := x; exact ⟨_, e⟩
  | set S n => obtain ⟨o, _, _, _, e, _⟩ := x; exact ⟨_, e⟩
  | ins C dx fs => obtain ⟨_, _, _, e, _⟩ := x; exact ⟨_, e⟩
  | own y => exact x
  | xd fs => obtain ⟨_, ⟨_, _, _, e, _⟩, _⟩ := x; exact ⟨_, e⟩
  | rng lo hi => obtain ⟨_, _, _, e⟩ := x; exact ⟨_, e⟩
  | frz ob u => obtain ⟨e, _⟩ := x; exact ⟨_, e⟩
  | tbl ps => exact ⟨_, show h.get? a = some _ from x⟩
  | met f y => exact ⟨_, show h.get? a = some _ from x⟩
  | ext φ => obtain ⟨_, e, _⟩ := x; exact e
section
variable {X : Cx}
def rSortedD (K : PySem.W.Frag) : List V → Hp → VK → Prop := fun vs H Q => ∃ (a : Addr) (bs : List (V × PyData)), vs = [V.ref a] ∧ (SqL K H a (bs.map (·.1)) ∨ SqT K H a (bs.map (·.1))) ∧ (∀ b ∈ bs, Dp K H b.1 b.2 ∧ b.2.depth ≤ 60) ∧ W.AllAlike (bs.map (·.2)) ∧ W.Sortable (bs.map (·.2)) ∧ ∀ d, H d = none → Q (.ref d) (upd H d (.lst ((bs.mergeSort (W.dataLe false fun b : V × PyData => b.2)).map (·.1))))
theorem cr_sortedD (hu : X.A.units + 65 < cLine) : CallR X (.builtin "sorted") (rSortedD X.K) := by
  intro pins s σ H vs us Q I r h
  obtain ⟨a, bs, rfl, hs, hb, hal, hso, q⟩ := h
  rw [Vals.ref1 r]
  have key : ∀ (T : String) (o : Obj) (n : Nat) (its : List Value), (T = "list" ∨ T = "tuple") → s.heap.get? a = some o → o.cls = .type T → o.data = .seq its.toArray n → Vals (bs.map (·.1)) its → bs.length ≤ sizeLine → wpAny (model X.prog X.w) X.A (call (.builtin "sorted") [.ref a]) (EP X pins σ Q) X.xe s := by
    intro T o n its hT ho hc hd rv hz
    have e1 := each_paired rv
    have e2 : W.EachIs (fun (u : Value) (b : V × PyData) => ∃ as, Reads s.heap u b.2 as) its bs := each_with (P := fun b => Dp X.K H b.1 b.2) (fun u b hd hr => Dp.reads I b.2 b.1 u hd hr) (fun b h => (hb b h).1) e1
    have hl : its.length = bs.length := e1.length
    refine sorted_seq hT ho hc hd (by omega) fun h1 k1 => ?_
    have e3 : W.EachIs (fun (u : Value) (b : V × PyData) => ∃ as, Reads h1 u b.2 as) its bs := each_with (P := fun _ => True) (fun u b _ ⟨as, hr⟩ => ⟨as, Reads.keeps (fun b o h => k1 b o h) hr⟩) (fun _ _ => trivial) e2
    refine ⟨_, W.SortsAt.data (W.each_map (fun b : V × PyData => b.2) e3) hal hso ?_, fun h2 d e k2 hn hd2 => ?_⟩
    · intro p hp
      obtain ⟨b, hb2, rfl⟩ := List.mem_map.mp hp
      have := (hb b hb2).2
      show X.A.units + 1 + 1 + b.2.depth < cLine
      omega
    · have hH : H d = none := by
        cases z : H d with
        | none => rfl
        | some u => obtain ⟨v, hv⟩ := obj_some (I.hok d u z); rw [hn] at hv; cases hv
      have out := paired_each (W.sortVals_data (enc := fun b : V × PyData => b.2) false e1 e3 hal)
      refine ⟨.ref d, _, I.laidN (t' := s.toks) (o := .lst ((bs.mergeSort (W.dataLe false fun b : V × PyData => b.2)).map (·.1))) k2 hn hH ⟨?_, _, e, out, hd2⟩, rfl, q d hH⟩
      rw [List.length_map, List.length_mergeSort]
      exact hz
  rcases hs with hs | hs
  · obtain ⟨its, rv, ht, hz⟩ := I.list hs
    obtain ⟨o, ho, hc, n, hd⟩ := ht.isList
    rw [List.length_map] at hz
    exact key "list" o n its (.inl rfl) ho hc hd rv hz
  · obtain ⟨its, rv, ht, hz⟩ := I.tuple hs
    obtain ⟨o, ho, hc, n, hd⟩ := ht
    rw [List.length_map] at hz
    exact key "tuple" o n its (.inr rfl) ho hc hd rv hz
theorem dpAll_zip {K : PySem.W.Frag} {H : Hp} : ∀ {xs : List V} {ps : List PyData}, DpAll K H xs ps → xs.length = ps.length ∧ ∀ b ∈ xs.zip ps, Dp K H b.1 b.2
  | _, _, .nil => ⟨rfl, fun b hb => by simp at hb⟩
  | _, _, .cons h1 h2 => by
    obtain ⟨e, h⟩ := dpAll_zip h2
    refine ⟨by simp [e], fun b hb => ?_⟩
    rw [List.zip_cons_cons] at hb
    rcases List.mem_cons.mp hb with rfl | hb
    · exact h1
    · exact h b hb
theorem reps_zip {K : PySem.W.Frag} {H : Hp} : ∀ {ds : List D} {xs : List V}, Reps K H ds xs → ∀ b ∈ ds.zip xs, Rep K H b.1 b.2
  | [], xs, _, b, hb => by simp at hb
  | d :: ds, xs, h, b, hb => by
    unfold Reps at h
    obtain ⟨v, vs, rfl, h1, h2⟩ := h
    rw [List.zip_cons_cons] at hb
    rcases List.mem_cons.mp hb with rfl | hb
    · exact h1
    · exact reps_zip h2 b hb
theorem zip_reps {K : PySem.W.Frag} {H : Hp} {α : Type} {f : α → D} {g : α → V} : ∀ {l : List α}, (∀ t ∈ l, Rep K H (f t) (g t)) → Reps K H (l.map f) (l.map g)
  | [], _ => by unfold Reps; rfl
  | t :: l, h => Reps.cons (h t List.mem_cons_self) (zip_reps fun x hx => h x (List.mem_cons_of_mem _ hx))
/-- data sorted by Python's order of what they tell -/
def sortD (ds : List D) (ps : List PyData) : List D := ((ds.zip ps).mergeSort (W.dataLe false fun b : D × PyData => b.2)).map (·.1)
def gSortedD (ds : List D) (m : Mu) (R : List D → Mu → Prop) : Prop := ∃ ps, pyAll (py m deep) ds = some ps ∧ W.AllAlike ps ∧ W.Sortable ps ∧ R (sortD ds ps) m
theorem depth_mem : ∀ {ps : List PyData} {p : PyData}, p ∈ ps → p.depth ≤ PyData.depthAll ps
  | [], _, h => by cases h
  | q :: ps, p, h => by
    show p.depth ≤ max q.depth (PyData.depthAll ps)
    rcases List.mem_cons.mp h with rfl | h
    · omega
    · have := depth_mem h
      omega
def nSortedD (te : DTE) : DTA := fun r m R => te r m fun x m1 => match x with
  | .tup ds => gSortedD ds m1 R
  | x => match seqOf m1 x with
    | some ds => gSortedD ds m1 R
    | none => False
theorem sort_three {K : PySem.W.Frag} {H : Hp} {ds : List D} {xs : List V} {ps : List PyData} (r : Reps K H ds xs) (d : DpAll K H xs ps) : Reps K H (sortD ds ps) (((xs.zip ps).mergeSort (W.dataLe false fun b : V × PyData => b.2)).map (·.1)) := by
  have hl := r.length
  obtain ⟨hl2, _⟩ := dpAll_zip d
  have e1 : ((ds.zip xs).zip ps).map (fun t => (t.1.1, t.2)) = ds.zip ps := by
    refine List.ext_getElem (by simp; omega) fun i h1 h2 => ?_
    simp
  have e2 : ((ds.zip xs).zip ps).map (fun t => (t.1.2, t.2)) = xs.zip ps := by
    refine List.ext_getElem (by simp; omega) fun i h1 h2 => ?_
    simp
  have s1 := W.sort_maps (r := W.dataLe false fun t : (D × V) × PyData => t.2) (s := W.dataLe false fun b : D × PyData => b.2) (fun t : (D × V) × PyData => (t.1.1, t.2)) (l := (ds.zip xs).zip ps) fun _ _ _ _ => rfl
  have s2 := W.sort_maps (r := W.dataLe false fun t : (D × V) × PyData => t.2) (s := W.dataLe false fun b : V × PyData => b.2) (fun t : (D × V) × PyData => (t.1.2, t.2)) (l := (ds.zip xs).zip ps) fun _ _ _ _ => rfl
  unfold sortD
  rw [← e1, ← e2, ← s1, ← s2, List.map_map, List.map_map]
  refine zip_reps (f := fun t : (D × V) × PyData => t.1.1) (g := fun t => t.1.2) fun t ht => ?_
  have ht := (List.mem_mergeSort).mp ht
  have := List.of_mem_zip (a := t.1) (b := t.2) ht
  exact reps_zip r _ this.1
theorem dn_sortedD {e : Expr} {te : DTE} {p pos : Pos} {k : Nat} (hr : Room k X.A) (gl : Gl X "sorted") (hm : X.mg "sorted" = none) (he : DE X e te) (hs : starEach [e] X.env = (false, eval e X.env) :: starEach [] X.env := by rfl) (hpl : (backTo pos (starEach [] X.env)).any (·.1) = false := by rfl) : DN X (.Call (.Name "sorted" p) [e] [] pos) (nSortedD te) :=
  ⟨(pe_callB (cr_sortedD (Room.units65 hr)) gl hm (by decide +kernel) (pa_cons he.p pa_nil hs) (by decide) (by decide) hs hpl).of fun s H Q ⟨r, m, R, hs, M, h, q⟩ => ⟨r, m, _, hs, M, h, fun x m1 v H1 h1 s1 M1 q1 => by
    have hh : ∃ (a : Addr) (xs : List V) (ds : List D), v = .ref a ∧ (SqL X.K H1 a xs ∨ SqT X.K H1 a xs) ∧ Reps X.K H1 ds xs ∧ gSortedD ds m1 R := by
      split at h1
      · obtain ⟨a, xs, rfl, hx, rx⟩ := Rep.tup_.mp q1
        exact ⟨a, xs, _, rfl, .inr hx, rx, h1⟩
      · rename_i hn
        split at h1
        · rename_i ds eds
          obtain ⟨a, xs, rfl, hx, rx⟩ := seqOf_list M1 q1 eds (fun ds e => hn ds e)
          exact ⟨a, xs, _, rfl, .inl hx, rx, h1⟩
        · exact h1.elim
    obtain ⟨a, xs, ds, rfl, hx, rx, ps, ep, hal, hso, hR⟩ := hh
    have dp := pyAll_dp (py_dp M1 deep) ep rx
    obtain ⟨l2, dz⟩ := dpAll_zip dp
    have f1 : (xs.zip ps).map (·.1) = xs := List.map_fst_zip (by omega)
    have f2 : (xs.zip ps).map (·.2) = ps := List.map_snd_zip (by omega)
    have sh := (pyAll_shape (py_shape (m := m1) deep) ep).2
    refine ⟨a, xs.zip ps, rfl, by rw [f1]; exact hx, fun b hb => ⟨dz b hb, ?_⟩, by rw [f2]; exact hal, by rw [f2]; exact hso, fun z hz => ?_⟩
    · have := depth_mem (List.of_mem_zip hb).2
      have : deep = 12 := rfl
      omega
    · exact q _ _ _ _ _ hR (s1.trans (Step.new hz)) (M1.new hz) upd_same (M1.free hz) (s1.th _ hz) ((sort_three rx dp).keep (Keep.new hz))⟩⟩
end
theorem sortD_map {α : Type} {f : α → D} {g : α → PyData} (xs : List α) : sortD (xs.map f) (xs.map g) = (xs.mergeSort (W.dataLe false g)).map f := by
  unfold sortD
  have e : (xs.map f).zip (xs.map g) = xs.map fun x => (f x, g x) := by
    refine List.ext_getElem (by simp) fun i h1 h2 => ?_
    simp
  rw [e, ← W.sort_maps (r := W.dataLe false g) (s := W.dataLe false fun b : D × PyData => b.2) (fun x => (f x, g x)) fun _ _ _ _ => rfl, List.map_map]
  rfl
theorem dataLe_total {α : Type} (g : α → PyData) : W.TotalLe (W.dataLe false g) := W.sortLe_total _ _ _
theorem dataLe_anti {α : Type} {g : α → PyData} {a b : α} (h : W.dataLe false g a b = true) (h' : W.dataLe false g b a = true) : W.keyToks (g a) = W.keyToks (g b) := by
  have h1 : (!(listOrd itemOrd).blt (W.keyToks (g b)) (W.keyToks (g a))) = true := h
  have h2 : (!(listOrd itemOrd).blt (W.keyToks (g a)) (W.keyToks (g b))) = true := h'
  rw [Bool.not_eq_true'] at h1 h2
  exact (listOrd itemOrd).total _ _ h2 h1
theorem perm_same {α : Type} : ∀ {l l' : List α}, l.Perm l' → (∀ a ∈ l, ∀ b ∈ l, a = b) → l = l' := by
  intro l l' h hs
  refine List.ext_getElem h.length_eq fun i h1 h2 => ?_
  exact hs _ (List.getElem_mem h1) _ (h.mem_iff.mpr (List.getElem_mem h2))
theorem sort_perm {α : Type} {g : α → PyData} {xs ys : List α} (h : xs.Perm ys) (inj : ∀ a ∈ xs, ∀ b ∈ xs, W.keyToks (g a) = W.keyToks (g b) → a = b) : xs.mergeSort (W.dataLe false g) = ys.mergeSort (W.dataLe false g) := by
  have t := dataLe_total g
  have p := List.mergeSort_perm xs (W.dataLe false g)
  refine W.sort_unique t (W.sort_pairwise t xs) fun c => perm_same ((p.trans h).filter _) fun a ha b hb => ?_
  obtain ⟨ma, ra⟩ := List.mem_filter.mp ha
  obtain ⟨mb, rb⟩ := List.mem_filter.mp hb
  unfold W.sameRank at ra rb
  rw [Bool.and_eq_true] at ra rb
  exact inj a (p.mem_iff.mp ma) b (p.mem_iff.mp mb) (dataLe_anti (t.trans _ _ _ ra.2 rb.1) (t.trans _ _ _ rb.2 ra.1))
/-- the readings, for simp -/
def sortK (m : Mu) (x : D) (R : List D → Mu → Prop) : Prop := match x with
  | .tup ds => gSortedD ds m R
  | x => match seqOf m x with
    | some ds => gSortedD ds m R
    | none => False
theorem u_nSortedD {te : DTE} {r : DSt} {m : Mu} {R : List D → Mu → Prop} : nSortedD te r m R = te r m fun x m1 => sortK m1 x R := id rfl
theorem sortK_tup {m : Mu} {ds : List D} {R : List D → Mu → Prop} : sortK m (.tup ds) R = gSortedD ds m R := id rfl
theorem sortK_ref {m : Mu} {a : Addr} {R : List D → Mu → Prop} : sortK m (.ref a) R = lstK (m a) fun ds => gSortedD ds m R := by
  simp only [sortK, seqOf, lstK] <;> (generalize m a = o; rcases o with _ | (_ | _ | _ | _ | _) <;> rfl)
theorem gSorted_of {α : Type} [DecidableEq α] {n : Nat} {f : α → D} {g : α → PyData} (h : Enc n f g) {xs : List α} {m : Mu} {R : List D → Mu → Prop} (ha : W.AllAlike (xs.map g)) (hs : W.Sortable (xs.map g)) (hR : R ((xs.mergeSort (W.dataLe false g)).map f) m) (hn : n ≤ deep := by decide) : gSortedD (xs.map f) m R :=
  ⟨xs.map g, pyAll_map (fun y => h.py m deep y hn) xs, ha, hs, by rw [sortD_map]; exact hR⟩
/-- tokens that tell where they end -/
def Pfx {α : Type} (e : α → PyData) : Prop := ∀ (a b : α) (t t' : List (Int ⊕ List Nat)), W.keyToks (e a) ++ t = W.keyToks (e b) ++ t' → a = b ∧ t = t'
theorem pfx_int : Pfx PyData.int := fun a b t t' h => by
  have h : (Sum.inl a : Int ⊕ List Nat) :: t = Sum.inl b :: t' := h
  injection h with h1 h2
  injection h1 with h1
  exact ⟨h1, h2⟩
theorem pfx_all {α : Type} {e : α → PyData} (h : Pfx e) : ∀ (xs ys : List α) (t t' : List (Int ⊕ List Nat)), W.keyToksAll (xs.map e) ++ t = W.keyToksAll (ys.map e) ++ t' → xs = ys ∧ t = t'
  | [], [], t, t', q => by
    have q : (Sum.inl 0 : Int ⊕ List Nat) :: t = Sum.inl 0 :: t' := q
    injection q with _ q
    exact ⟨rfl, q⟩
  | [], y :: ys, t, t', q => by
    have q : (Sum.inl 0 : Int ⊕ List Nat) :: t = Sum.inl 1 :: (W.keyToks (e y) ++ W.keyToksAll (ys.map e) ++ t') := q
    injection q with q _
    injection q with q
    exact absurd q (by decide)
  | x :: xs, [], t, t', q => by
    have q : (Sum.inl 1 : Int ⊕ List Nat) :: (W.keyToks (e x) ++ W.keyToksAll (xs.map e) ++ t) = Sum.inl 0 :: t' := q
    injection q with q _
    injection q with q
    exact absurd q (by decide)
  | x :: xs, y :: ys, t, t', q => by
    have q : (Sum.inl 1 : Int ⊕ List Nat) :: (W.keyToks (e x) ++ W.keyToksAll (xs.map e) ++ t) = Sum.inl 1 :: (W.keyToks (e y) ++ W.keyToksAll (ys.map e) ++ t') := q
    injection q with _ q
    rw [List.append_assoc, List.append_assoc] at q
    obtain ⟨e1, q⟩ := h x y _ _ q
    obtain ⟨e2, q⟩ := pfx_all h xs ys t t' q
    exact ⟨by rw [e1, e2], q⟩
theorem pfx_list {α : Type} {e : α → PyData} (h : Pfx e) : Pfx fun xs : List α => PyData.tuple (xs.map e) := fun a b t t' q => pfx_all h a b t t' q
theorem pfx_fr : Pfx frP := fun a b t t' q => by
  have e : ∀ x : Rat, frP x = PyData.tuple ([x.num, (x.den : Int)].map PyData.int) := fun x => rfl
  rw [e, e] at q
  obtain ⟨h, q⟩ := pfx_list pfx_int [a.num, (a.den : Int)] [b.num, (b.den : Int)] t t' q
  injection h with h1 h2
  injection h2 with h2 _
  exact ⟨Rat.ext h1 (by omega), q⟩
theorem Pfx.inj {α : Type} {e : α → PyData} (h : Pfx e) {a b : α} (q : W.keyToks (e a) = W.keyToks (e b)) : a = b := (h a b [] [] (by rw [List.append_nil, List.append_nil]; exact q)).1
theorem alike_fr (a b : Rat) : W.alike (frP a) (frP b) = true := rfl
theorem alike_frs : ∀ (xs ys : List Rat), W.alikeAll (xs.map frP) (ys.map frP) = true
  | [], [] => rfl
  | [], y :: ys => rfl
  | x :: xs, [] => rfl
  | x :: xs, y :: ys => by
    show (W.alike (frP x) (frP y) && W.alikeAll (xs.map frP) (ys.map frP)) = true
    rw [alike_fr, alike_frs xs ys]
    rfl
theorem sorted_rows {rows : List (List Rat)} (hne : ∀ r ∈ rows, r ≠ []) : W.AllAlike (rows.map fun w : List Rat => PyData.tuple (w.map frP)) ∧ W.Sortable (rows.map fun w : List Rat => PyData.tuple (w.map frP)) := by
  constructor
  · intro d hd d' hd'
    obtain ⟨x, _, rfl⟩ := List.mem_map.mp hd
    obtain ⟨y, _, rfl⟩ := List.mem_map.mp hd'
    exact alike_frs x y
  · refine .inl fun d hd => ?_
    obtain ⟨x, hx, rfl⟩ := List.mem_map.mp hd
    cases x with
    | nil => exact absurd rfl (hne _ hx)
    | cons z zs => exact ⟨_, _, rfl⟩
theorem sorted_frs (xs : List Rat) : W.AllAlike (xs.map frP) ∧ W.Sortable (xs.map frP) := by
  constructor
  · intro d hd d' hd'
    obtain ⟨x, _, rfl⟩ := List.mem_map.mp hd
    obtain ⟨y, _, rfl⟩ := List.mem_map.mp hd'
    exact alike_fr x y
  · refine .inl fun d hd => ?_
    obtain ⟨x, hx, rfl⟩ := List.mem_map.mp hd
    exact ⟨_, _, rfl⟩

/-! ### maps of many figures whose slopes have few, and what comes round by them (k18) -/
def VlS (ks : List Kn) : Prop := ∃ n s, BdK n ks ∧ (∀ w ∈ pairs ks, Bd s (slp w.1 w.2)) ∧ n ≤ 1500 ∧ 2 * n + s + 1510 ≤ 4000
theorem slp_bdK {n : Nat} {ks : List Kn} (hi : Inc ks) (h : BdK n ks) : ∀ w ∈ pairs ks, Bd (4 * n + 2) (slp w.1 w.2) := by
  intro w hw
  have a := h _ (pairs_mem hw).1
  have b := h _ (pairs_mem hw).2
  have l := pairs_lt hi hw
  have s1 : Bd (2 * n + 1) (w.2.2 - w.1.2) := b.2.sub a.2
  have s2 : Bd (2 * n + 1) (w.2.1 - w.1.1) := b.1.sub a.1
  have s3 : Bd (2 * n + 1 + (2 * n + 1)) (slp w.1 w.2) := s1.div s2 (by grind)
  exact s3.mono (by omega)
theorem VlS.of {n : Nat} {ks : List Kn} (hi : Inc ks) (h : BdK n ks) (hn : 6 * n + 1512 ≤ 4000) : VlS ks := ⟨n, 4 * n + 2, h, slp_bdK hi h, by omega, by omega⟩
theorem VlS.kn {ks : List Kn} (h : VlS ks) : BdK 1500 ks := by
  obtain ⟨n, s, h1, _, h3, _⟩ := h
  exact h1.mono h3
theorem lf_slp {be N : Nat} {a b : Kn} (hb : 0 < be) (h : a.1 < b.1) (l : LF be N a b) (hN : N < 2 ^ 407) : Bd 407 (slp a b) := by
  obtain ⟨P, D, c, d0, dN, pN, e1, e2⟩ := l
  have hbe := nat_ne hb
  have hd := nat_ne d0
  have e : slp a b = (P : Rat) / ((D : Int) : Rat) := by
    have hd' : ((D : Int) : Rat) ≠ 0 := by
      rw [Rat.intCast_natCast]
      exact hd
    have h0 : b.1 - a.1 ≠ 0 := by grind
    have k1 : (D : Rat) * be * (b.2 - a.2) = (P : Rat) * be * (b.1 - a.1) := by grind
    have k2 : be * ((D : Rat) * (b.2 - a.2) - (P : Rat) * (b.1 - a.1)) = 0 := by grind
    have k3 : (D : Rat) * (b.2 - a.2) = (P : Rat) * (b.1 - a.1) := by
      rcases Rat.mul_eq_zero.mp k2 with h | h
      · exact absurd h hbe
      · grind
    have k4 : slp a b * (b.1 - a.1) = b.2 - a.2 := Rat.div_mul_cancel h0
    have k5 : (P : Rat) / ((D : Int) : Rat) * ((D : Int) : Rat) = P := Rat.div_mul_cancel hd'
    rw [Rat.intCast_natCast] at k5 ⊢
    generalize (P : Rat) / (D : Rat) = q at *
    have k6 : ((slp a b - q) * (D : Rat)) * (b.1 - a.1) = 0 := by grind
    rcases Rat.mul_eq_zero.mp k6 with h | h
    · rcases Rat.mul_eq_zero.mp h with h | h
      · grind
      · exact absurd h hd
    · exact absurd h h0
  rw [e]
  exact Bd.of_div (by omega) (by omega) (by omega)
def SzP (one o : List Kn) : Prop := ∃ n k, BdK n one ∧ BdK k o ∧ n ≤ 1500 ∧ k ≤ 1500 ∧ 6 * n + k + 10 ≤ 4000
/-- a map that may be turned -/
structure TurS (ks : List Kn) (n : Nat) : Prop where
  good : Good (loK ks) (hiK ks) ks
  n7 : n ≤ 7
  vl : VlS ks
  ol : ks.length ≤ 100000
  sz : ∀ i, i < n → SzP (turnK ks i) ks ∧ BdK 900 (behK (turnK ks i) ks) ∧ (turnK ks i).length * (ks.length + 1) ≤ 16000000
structure RnS (ks : List Kn) (n : Nat) : Prop extends TurS ks n where
  len : (turnK ks n).length ≤ 1000
  bd : BdK 650 (turnK ks n)
  nt : NtB (stayR (turnK ks n))
  rd : ∀ p ∈ noughtsK (stayR (turnK ks n)), ∀ x, x = p.1 ∨ x = p.2 → loK ks ≤ x ∧ x ≤ hiK ks ∧ ∀ j, j < n → Bd 1500 (iterV ks j x)
theorem MpA.rns {ks : List Kn} (h : MpA ks) (h8 : ks.length ≤ 8) {n : Nat} (hn : n ≤ 7) (hl : (turnK ks n).length ≤ 1000) : RnS ks n := by
  have s := h.sz h8 hn
  refine ⟨⟨h.good, hn, .of h.good.inc h.bd (by decide), by omega, fun i hi => ⟨⟨650, 14, (h.sz h8 (by omega)).bd, h.bd, by omega, by omega, by omega⟩, (h.szb h8 (by omega)).bd.mono (by decide), ?_⟩⟩, hl, s.bd, s.nt, fun p hp x hx => ?_⟩
  · have h1 := Nat.mul_le_mul_right (ks.length + 1) (turnK_len (ks := ks) i)
    have h2 : 2 * (ks.length + 1) ^ i * (ks.length + 1) ≤ 2 * 9 ^ 7 := by
      rw [Nat.mul_assoc, ← Nat.pow_succ]
      exact Nat.mul_le_mul_left 2 (Nat.le_trans (Nat.pow_le_pow_left (by omega) _) (Nat.pow_le_pow_right (by decide) (by omega)))
    have h3 : 2 * 9 ^ 7 = 9565938 := by decide
    omega
  · obtain ⟨a, b, c⟩ := h.round h8 hn p hp x hx
    exact ⟨a, b, fun j hj => (c j (by omega)).mono (by decide)⟩
theorem SzA.rns {L U : Rat} {t : List Kn} (h : SzA L U t) (bL : Bd 14 L) (bU : Bd 14 U) (hl : t.length ≤ 1000) (hm : leastK t = t) (hr : ∀ p ∈ noughtsK (stayR t), ∀ x, x = p.1 ∨ x = p.2 → L ≤ x ∧ x ≤ U ∧ Bd 1500 x) : RnS t 1 := by
  have g := h.good
  have t1 : turnK t 1 = t := by rw [turnK_one g, hm]
  have t0 : turnK t 0 = [(L, L), (U, U)] := by
    unfold turnK
    rw [g.lo, g.hi]
  have b := h.bd
  refine ⟨⟨by rw [g.lo, g.hi]; exact g, by omega, ?_, by omega, fun i hi => ?_⟩, by rw [t1]; exact hl, by rw [t1]; exact b, by rw [t1]; exact h.nt, ?_⟩
  · obtain ⟨be, b1, b2, pf⟩ := h.pf
    exact ⟨650, 407, b, fun w hw => lf_slp b1 (pairs_lt g.inc hw) (pf.pc w hw) (by omega), by omega, by omega⟩
  · have : i = 0 := by omega
    subst this
    rw [t0, beh_id g]
    refine ⟨⟨14, 650, fun k hk => ?_, b, by omega, by omega, by omega⟩, b.mono (by decide), ?_⟩
    · simp only [List.mem_cons, List.not_mem_nil, or_false] at hk
      rcases hk with rfl | rfl
      · exact ⟨bL, bL⟩
      · exact ⟨bU, bU⟩
    · show 2 * (t.length + 1) ≤ 16000000
      omega
  · rw [t1, g.lo, g.hi]
    intro p hp x hx
    obtain ⟨q1, q2, q3⟩ := hr p hp x hx
    refine ⟨q1, q2, fun j hj => ?_⟩
    have : j = 0 := by omega
    subst this
    exact q3
/-! lone points -/
theorem lone_img {ks : List Kn} (g : Good (loK ks) (hiK ks) ks) {n : Nat} {x : Rat} (h : (x, x) ∈ noughtsK (stayR (turnK ks n))) {j : Nat} (hj : j ≤ n) : (iterV ks j x, iterV ks j x) ∈ noughtsK (stayR (turnK ks n)) := by
  have c := (stays_in (turnK_good g n)).1
  have fx := fix_of g h
  have hfx : iterV ks n x = x := fx.2.2.2 x Rat.le_refl Rat.le_refl
  have hx1 : loK ks ≤ x := fx.1
  have hx2 : x ≤ hiK ks := fx.2.2.1
  have rj := iterV_rng g hx1 hx2 j
  have fy : iterV ks n (iterV ks j x) = iterV ks j x := iter_comm hfx
  obtain ⟨q, hq, q1, q2⟩ := (fix_iff g).mp ⟨rj.1, rj.2, fy⟩
  have fq := fix_of g hq
  have gy : iterV ks (n - j) (iterV ks j x) = x := by rw [← iterV_add, show n - j + j = n by omega]; exact hfx
  have gm := turnK_good g (n - j)
  have gm' : Good (loK (turnK ks (n - j))) (hiK (turnK ks (n - j))) (turnK ks (n - j)) := by rw [gm.lo, gm.hi]; exact gm
  have hall : ∀ z, q.1 ≤ z → z ≤ q.2 → z = iterV ks j x := by
    intro z z1 z2
    have zr1 : loK ks ≤ z := by have := fq.1; grind
    have zr2 : z ≤ hiK ks := by have := fq.2.2.1; grind
    have fz := fq.2.2.2 z z1 z2
    have wz := iterV_rng g zr1 zr2 (n - j)
    have key : ∀ v, (x ≤ v ∧ v ≤ iterV ks (n - j) z) ∨ (iterV ks (n - j) z ≤ v ∧ v ≤ x) → InU (noughtsK (stayR (turnK ks n))) v := by
      intro v hv
      have ev : ∃ u, q.1 ≤ u ∧ u ≤ q.2 ∧ iterV ks (n - j) u = v := by
        have e1 := turnK_val g zr1 zr2 (n - j)
        have e2 := turnK_val g rj.1 rj.2 (n - j)
        rcases rlt z (iterV ks j x) with d | d
        · obtain ⟨u, u1, u2, u3⟩ := ivtK gm' (s := z) (t := iterV ks j x) (v := v) (by grind) (by rw [e1, e2, gy]; grind)
          have ur1 : loK ks ≤ u := by grind
          have ur2 : u ≤ hiK ks := by grind
          exact ⟨u, by grind, by grind, by rw [← turnK_val g ur1 ur2]; exact u3⟩
        · obtain ⟨u, u1, u2, u3⟩ := ivtK gm' (s := iterV ks j x) (t := z) (v := v) d (by rw [e1, e2, gy]; grind)
          have ur1 : loK ks ≤ u := by grind
          have ur2 : u ≤ hiK ks := by grind
          exact ⟨u, by grind, by grind, by rw [← turnK_val g ur1 ur2]; exact u3⟩
      obtain ⟨u, u1, u2, rfl⟩ := ev
      have ur1 : loK ks ≤ u := by have := fq.1; grind
      have ur2 : u ≤ hiK ks := by have := fq.2.2.1; grind
      have ru := iterV_rng g ur1 ur2 (n - j)
      exact (fix_iff g).mp ⟨ru.1, ru.2, iter_comm (fq.2.2.2 u u1 u2)⟩
    have ew : iterV ks (n - j) z = x := by
      rcases rlt (iterV ks (n - j) z) x with d | d
      · obtain ⟨r, hr, r1, r2⟩ := c.conn (s := iterV ks (n - j) z) (t := x) (by grind) fun v v1 v2 => key v (.inr ⟨v1, v2⟩)
        have := c.meet hr h (x := x) (by grind) r2 Rat.le_refl Rat.le_refl
        rw [this] at r1
        have r1 : x ≤ iterV ks (n - j) z := r1
        grind
      · obtain ⟨r, hr, r1, r2⟩ := c.conn (s := x) (t := iterV ks (n - j) z) d fun v v1 v2 => key v (.inl ⟨v1, v2⟩)
        have := c.meet hr h (x := x) r1 (by grind) Rat.le_refl Rat.le_refl
        rw [this] at r2
        have r2 : iterV ks (n - j) z ≤ x := r2
        grind
    rw [← ew, ← iterV_add, show j + (n - j) = n by omega]
    exact fz.symm
  have e1 := hall q.1 Rat.le_refl fq.2.1
  have e2 := hall q.2 fq.2.1 Rat.le_refl
  have : q = (iterV ks j x, iterV ks j x) := Prod.ext e1 e2
  rw [← this]
  exact hq
theorem dvd_fix {ks : List Kn} {x : Rat} {d n : Nat} (h : d ∣ n) (hx : iterV ks d x = x) : iterV ks n x = x := by
  obtain ⟨t, rfl⟩ := h
  rw [Nat.mul_comm]
  exact iter_fix hx t
/-- a lone point that comes round by fewer turns is lone among these -/
theorem lone_less {ks : List Kn} (g : Good (loK ks) (hiK ks) ks) {n d : Nat} (hd : d ∣ n) {x : Rat} (h : (x, x) ∈ noughtsK (stayR (turnK ks n))) (hx : iterV ks d x = x) : (x, x) ∈ noughtsK (stayR (turnK ks d)) := by
  have c := (stays_in (turnK_good g n)).1
  have fx := fix_of g h
  obtain ⟨q, hq, q1, q2⟩ := (fix_iff g (d := d) (x := x)).mp ⟨fx.1, fx.2.2.1, hx⟩
  have fq := fix_of g hq
  obtain ⟨r, hr, r1, r2⟩ := c.conn (s := q.1) (t := q.2) fq.2.1 fun v v1 v2 => (fix_iff g).mp ⟨by have := fq.1; grind, by have := fq.2.2.1; grind, dvd_fix hd (fq.2.2.2 v v1 v2)⟩
  have e := c.meet hr h (x := x) (by grind) (by grind) Rat.le_refl Rat.le_refl
  rw [e] at r1 r2
  have r1 : x ≤ q.1 := r1
  have r2 : q.2 ≤ x := r2
  have : q = (x, x) := Prod.ext (by grind) (by grind)
  rw [← this]
  exact hq
def singL (ps : List Kn) : List Rat := (ps.filter fun p => decide (p.1 = p.2)).map (·.1)
theorem mem_singL {ps : List Kn} {x : Rat} : x ∈ singL ps ↔ (x, x) ∈ ps := by
  unfold singL
  rw [List.mem_map]
  constructor
  · rintro ⟨p, hp, rfl⟩
    obtain ⟨h1, h2⟩ := List.mem_filter.mp hp
    have h2 : p.1 = p.2 := by simpa using h2
    have : p = (p.1, p.1) := Prod.ext rfl h2.symm
    rw [← this]
    exact h1
  · intro h
    exact ⟨(x, x), List.mem_filter.mpr ⟨h, by simp⟩, rfl⟩
theorem singL_nodup {ps : List Kn} (c : Canon ps) : (singL ps).Nodup := by
  unfold singL List.Nodup
  rw [List.pairwise_map]
  refine List.Pairwise.imp_of_mem (fun {a b} ha hb hab e => ?_) (c.2.filter _)
  have := c.1 a (List.mem_filter.mp ha).1
  have h2 : a.1 = a.2 := by simpa using (List.mem_filter.mp ha).2
  grind
theorem rds_sing {ks : List Kn} (g : Good (loK ks) (hiK ks) ks) {n : Nat} {w : List Rat} (hw : w ∈ rdsK ks n) : ∀ x ∈ w, x ∈ singL (noughtsK (stayR (turnK ks n))) := by
  obtain ⟨p, hp, hr, rfl⟩ := rdsK_iff.mp hw
  intro x hx
  obtain ⟨j, hj, rfl⟩ := mem_wayR.mp hx
  rw [mem_singL]
  refine lone_img g ?_ (by omega)
  have : p = (p.1, p.1) := Prod.ext rfl hr.1.symm
  rw [← this]
  exact hp
theorem sing_perm {ks : List Kn} (g : Good (loK ks) (hiK ks) ks) {n : Nat} (n1 : 1 ≤ n) : ((foundK ks n n).filter fun x => decide (x ∈ singL (noughtsK (stayR (turnK ks n))))).Perm (singL (noughtsK (stayR (turnK ks n)))) := by
  refine (List.perm_ext_iff_of_nodup ((foundK_nodup g n n).filter _) (singL_nodup (stays_in (turnK_good g n)).1)).mpr fun x => ?_
  rw [List.mem_filter, decide_eq_true_iff]
  refine ⟨fun h => h.2, fun h => ⟨?_, h⟩⟩
  rw [mem_singL] at h
  have fx := fix_of g h
  have hfx : iterV ks n x = x := fx.2.2.2 x Rat.le_refl fx.2.1
  obtain ⟨d, d1, d2, d3, d4, d5⟩ := least_turn n1 hfx
  obtain ⟨i, hi, q1, q2, j, hj, q3⟩ := least_pt d1 d4 d5
  rw [mem_foundK]
  exact ⟨d, d1, d2, d3, (iterV ks i x, iterV ks i x), lone_less g d3 (lone_img g h (by omega)) q1, ⟨rfl, q2⟩, j, hj, q3⟩
/-- what comes round by fewer turns lies in what comes round -/
theorem less_in {ks : List Kn} (g : Good (loK ks) (hiK ks) ks) {n d : Nat} (hd : d ∣ n) {p : Kn} (hp : p ∈ noughtsK (stayR (turnK ks d))) : ∃ q ∈ noughtsK (stayR (turnK ks n)), q.1 ≤ p.1 ∧ p.2 ≤ q.2 := by
  have c := (stays_in (turnK_good g n)).1
  have fq := fix_of g hp
  exact c.conn fq.2.1 fun v v1 v2 => (fix_iff g).mp ⟨by have := fq.1; grind, by have := fq.2.2.1; grind, dvd_fix hd (fq.2.2.2 v v1 v2)⟩
/-- the rounds of one turn -/
theorem rds_one {ks : List Kn} (e : turnK ks 1 = ks) : rdsK ks 1 = (singL (noughtsK (stayR ks))).map fun x => [x] := by
  unfold rdsK rdsP singL
  rw [e, List.map_map]
  have : (fun p : Kn => @decide (isRd ks 1 p) (Classical.propDecidable _)) = fun p => decide (p.1 = p.2) := by
    funext p
    rw [decide_eq_decide]
    exact ⟨fun h => h.1, fun h => ⟨h, fun j h0 h1 => by omega⟩⟩
  rw [this]
  rfl
/-! mirrored rounds -/
theorem iter_mir {ks : List Kn} (g : Good (loK ks) (hiK ks) ks) {x : Rat} (x1 : loK ks ≤ x) (x2 : x ≤ hiK ks) : ∀ j, iterV (mirK ks) j (-x) = -iterV ks j x
  | 0 => rfl
  | j + 1 => by
    show valK (mirK ks) (iterV (mirK ks) j (-x)) = -valK ks (iterV ks j x)
    have r := iterV_rng g x1 x2 j
    rw [iter_mir g x1 x2 j, mirK_val g (by grind) (by grind), show - -iterV ks j x = iterV ks j x by grind]
theorem mir_good {ks : List Kn} (g : Good (loK ks) (hiK ks) ks) : Good (loK (mirK ks)) (hiK (mirK ks)) (mirK ks) ∧ loK (mirK ks) = -hiK ks ∧ hiK (mirK ks) = -loK ks := by
  have h := mirK_good g
  exact ⟨by rw [h.lo, h.hi]; exact h, h.lo, h.hi⟩
theorem mir_round {ks : List Kn} (g : Good (loK ks) (hiK ks) ks) (n : Nat) : noughtsK (stayR (turnK (mirK ks) n)) = mirP (noughtsK (stayR (turnK ks n))) := by
  obtain ⟨gm, l, u⟩ := mir_good g
  refine canon_uniq (stays_in (turnK_good gm n)).1 (mirP_canon (stays_in (turnK_good g n)).1) fun x => ?_
  rw [mirP_in, ← fix_iff gm, ← fix_iff g, l, u]
  constructor
  · rintro ⟨h1, h2, h3⟩
    have r1 : loK ks ≤ -x := by grind
    have r2 : -x ≤ hiK ks := by grind
    have := iter_mir g r1 r2 n
    rw [show - -x = x by grind, h3] at this
    exact ⟨r1, r2, by grind⟩
  · rintro ⟨h1, h2, h3⟩
    have := iter_mir g h1 h2 n
    rw [show - -x = x by grind, h3] at this
    exact ⟨by grind, by grind, by grind⟩
theorem lone_mirP {ps : List Kn} {x : Rat} : (x, x) ∈ mirP ps ↔ (-x, -x) ∈ ps := by
  unfold mirP
  rw [List.mem_reverse, List.mem_map]
  constructor
  · rintro ⟨p, hp, e⟩
    have e1 : -p.2 = x := congrArg Prod.fst e
    have e2 : -p.1 = x := congrArg Prod.snd e
    have : p = (-x, -x) := Prod.ext (by grind) (by grind)
    rw [← this]
    exact hp
  · intro h
    exact ⟨(-x, -x), h, Prod.ext (by grind) (by grind)⟩
/-- where the least stands, as the law looks for it -/
def leastAt (l : List Rat) : Nat → Nat
  | 0 => 0
  | k + 1 => if l.getD k 0 < l.getD (leastAt l k) 0 then k else leastAt l k
theorem leastAt_ok (l : List Rat) : ∀ k, (1 ≤ k → leastAt l k < k) ∧ (leastAt l 0 = 0) ∧ ∀ i, i < k → l.getD (leastAt l k) 0 ≤ l.getD i 0
  | 0 => ⟨by omega, rfl, fun i hi => by omega⟩
  | k + 1 => by
    obtain ⟨a, _, b⟩ := leastAt_ok l k
    have hs : leastAt l (k + 1) = if l.getD k 0 < l.getD (leastAt l k) 0 then k else leastAt l k := rfl
    rw [hs]
    split
    · rename_i c
      refine ⟨fun _ => by omega, rfl, fun i hi => ?_⟩
      rcases Nat.lt_or_ge i k with d | d
      · have := b i d
        grind
      · have : i = k := by omega
        rw [this]
        exact Rat.le_refl
    · rename_i c
      refine ⟨fun _ => ?_, rfl, fun i hi => ?_⟩
      · rcases Nat.eq_zero_or_pos k with d | d
        · subst d
          exact Nat.zero_lt_one
        · have := a d
          omega
      · rcases Nat.lt_or_ge i k with d | d
        · exact b i d
        · have : i = k := by omega
          rw [this]
          grind
def turnL (w : List Rat) : List Rat := (w.map fun x => -x).drop (leastAt (w.map fun x => -x) w.length) ++ (w.map fun x => -x).take (leastAt (w.map fun x => -x) w.length)
theorem turn_way {ks : List Kn} (g : Good (loK ks) (hiK ks) ks) {x : Rat} (x1 : loK ks ≤ x) (x2 : x ≤ hiK ks) {n : Nat} (hx : iterV ks n x = x) {i : Nat} (hi : i < n) : ((wayR ks x n).map fun x => -x).drop i ++ ((wayR ks x n).map fun x => -x).take i = wayR (mirK ks) (-iterV ks i x) n := by
  have ri := iterV_rng g x1 x2 i
  refine List.ext_getElem? fun t => ?_
  have hl : ((wayR ks x n).map fun x => -x).length = n := by rw [List.length_map, wayR_len]
  rcases Nat.lt_or_ge t n with ht | ht
  · rw [wayR_get ht, iter_mir g ri.1 ri.2]
    rw [← iterV_add]
    rcases Nat.lt_or_ge t (n - i) with c | c
    · rw [List.getElem?_append_left (by rw [List.length_drop, hl]; exact c), List.getElem?_drop, List.getElem?_map, wayR_get (by omega), Nat.add_comm]
      rfl
    · rw [List.getElem?_append_right (by rw [List.length_drop, hl]; exact c), List.length_drop, hl, List.getElem?_take_of_lt (by omega), List.getElem?_map, wayR_get (by omega)]
      have e : iterV ks (t + i) x = iterV ks (t - (n - i)) x := by
        rw [show t + i = t - (n - i) + n by omega, iterV_add, hx]
      rw [e]
      rfl
  · rw [List.getElem?_eq_none (by rw [List.length_append, List.length_drop, List.length_take, hl]; omega), List.getElem?_eq_none (by rw [wayR_len]; exact ht)]
theorem getD_way {ks : List Kn} {x : Rat} {n i : Nat} (hi : i < n) : ((wayR ks x n).map fun x => -x).getD i 0 = -iterV ks i x := by
  rw [List.getD_eq_getElem?_getD, List.getElem?_map, wayR_get hi]
  rfl
theorem turnL_way {ks : List Kn} (g : Good (loK ks) (hiK ks) ks) {x : Rat} (x1 : loK ks ≤ x) (x2 : x ≤ hiK ks) {n : Nat} (n1 : 1 ≤ n) (hx : iterV ks n x = x) : ∃ i, i < n ∧ turnL (wayR ks x n) = wayR (mirK ks) (-iterV ks i x) n ∧ ∀ j, j < n → iterV ks j x ≤ iterV ks i x := by
  obtain ⟨a, _, b⟩ := leastAt_ok ((wayR ks x n).map fun x => -x) n
  have a := a n1
  refine ⟨_, a, ?_, fun j hj => ?_⟩
  · unfold turnL
    rw [wayR_len]
    exact turn_way g x1 x2 hx a
  · have := b j hj
    rw [getD_way hj, getD_way a] at this
    grind
theorem mir_rds {ks : List Kn} (g : Good (loK ks) (hiK ks) ks) {n : Nat} (n1 : 1 ≤ n) : (rdsK (mirK ks) n).Perm ((rdsK ks n).map turnL) := by
  obtain ⟨gm, l, u⟩ := mir_good g
  have nd1 : ∀ {f : List Kn}, Good (loK f) (hiK f) f → (rdsK f n).Nodup := fun {f} gf => by
    refine List.Pairwise.imp (fun {a b} h e => ?_) (rds_rise gf n1)
    unfold hdLt at h
    rw [e] at h
    grind
  -- a round of lone points, mirrored
  have hway : ∀ p ∈ noughtsK (stayR (turnK ks n)), isRd ks n p → ∃ z, turnL (wayR ks p.1 n) = wayR (mirK ks) (-z) n ∧ (z, z) ∈ noughtsK (stayR (turnK ks n)) ∧ (∃ i, i < n ∧ z = iterV ks i p.1) ∧ ∀ j, j < n → iterV ks j p.1 ≤ z := by
    intro p hp hr
    have fx := fix_of g hp
    have hfx := fx.2.2.2 p.1 Rat.le_refl fx.2.1
    obtain ⟨i, hi, e, hmax⟩ := turnL_way g fx.1 (by grind) n1 hfx
    refine ⟨iterV ks i p.1, e, lone_img g ?_ (by omega), ⟨i, hi, rfl⟩, hmax⟩
    have : p = (p.1, p.1) := Prod.ext rfl hr.1.symm
    rw [← this]
    exact hp
  have nd2 : ((rdsK ks n).map turnL).Nodup := by
    unfold List.Nodup
    rw [List.pairwise_map]
    refine List.Pairwise.imp_of_mem (fun {a b} ha hb hab e => ?_) (nd1 g)
    obtain ⟨p, hp, hr, rfl⟩ := rdsK_iff.mp ha
    obtain ⟨q, hq, hr', rfl⟩ := rdsK_iff.mp hb
    obtain ⟨z, e1, z1, ⟨i, hi, ei⟩, _⟩ := hway p hp hr
    obtain ⟨y, e2, y1, ⟨k, hk, ek⟩, _⟩ := hway q hq hr'
    rw [e1, e2] at e
    have e := congrArg (fun w : List Rat => w.headD 0) e
    simp only [way_head n1] at e
    have e : iterV ks i p.1 = iterV ks k q.1 := by rw [← ei, ← ek]; grind
    have := (rd_meet hr ((fix_of g hp).2.2.2 p.1 Rat.le_refl (fix_of g hp).2.1) hr' ((fix_of g hq).2.2.2 q.1 Rat.le_refl (fix_of g hq).2.1) hi hk e).2
    exact hab (by rw [this])
  refine (List.perm_ext_iff_of_nodup (nd1 gm) nd2).mpr fun v => ?_
  rw [List.mem_map]
  constructor
  · intro hv
    obtain ⟨p, hp, hr, rfl⟩ := rdsK_iff.mp hv
    have pe : p = (p.1, p.1) := Prod.ext rfl hr.1.symm
    rw [mir_round g, pe, lone_mirP] at hp
    have fx := fix_of g hp
    have hfx : iterV ks n (-p.1) = -p.1 := fx.2.2.2 _ Rat.le_refl fx.2.1
    have hit : ∀ j, iterV (mirK ks) j p.1 = -iterV ks j (-p.1) := fun j => by
      have := iter_mir g fx.1 fx.2.2.1 j
      rw [← this]
      congr 1
      grind
    have hmin : ∀ j, 0 < j → j < n → iterV ks j (-p.1) ≠ -p.1 := fun j j0 jn e => by
      have := hr.2 j j0 jn
      rw [hit, e] at this
      grind
    obtain ⟨i, hi, q1, q2, j, hj, q3⟩ := least_pt n1 hfx hmin
    have hq : (iterV ks i (-p.1), iterV ks i (-p.1)) ∈ noughtsK (stayR (turnK ks n)) := lone_img g hp (by omega)
    have hrq : isRd ks n (iterV ks i (-p.1), iterV ks i (-p.1)) := ⟨rfl, q2⟩
    obtain ⟨z, e1, z1, ⟨a, ha, ea⟩, hmax⟩ := hway _ hq hrq
    refine ⟨wayR ks (iterV ks i (-p.1)) n, rdsK_iff.mpr ⟨_, hq, hrq, rfl⟩, ?_⟩
    rw [e1]
    have ez : -z = p.1 := by
      have h1 := hmax j hj
      have h1 : iterV ks j (iterV ks i (-p.1)) ≤ z := h1
      rw [← q3] at h1
      have h2 : z ≤ -p.1 := by
        have ea : z = iterV ks a (iterV ks i (-p.1)) := ea
        rw [← iterV_add, iter_mod hfx] at ea
        rcases Nat.eq_zero_or_pos ((a + i) % n) with c | c
        · rw [c] at ea
          have ea : z = -p.1 := ea
          grind
        · have := hr.2 _ c (Nat.mod_lt _ (by omega))
          rw [hit, ← ea] at this
          grind
      grind
    rw [ez]
  · rintro ⟨w, hw, rfl⟩
    obtain ⟨p, hp, hr, rfl⟩ := rdsK_iff.mp hw
    have fx := fix_of g hp
    have hfx := fx.2.2.2 p.1 Rat.le_refl fx.2.1
    obtain ⟨z, e1, z1, ⟨i, hi, ei⟩, hmax⟩ := hway p hp hr
    rw [e1]
    have fz := fix_of g z1
    refine rdsK_iff.mpr ⟨(-z, -z), ?_, ⟨rfl, fun j j0 jn => ?_⟩, rfl⟩
    · rw [mir_round g, lone_mirP, show - -z = z by grind]
      exact z1
    · show -z < iterV (mirK ks) j (-z)
      rw [iter_mir g fz.1 fz.2.2.1]
      have h1 := rd_prime hr hfx hi j0 jn
      have h2 : iterV ks j z ≤ z := by
        rw [ei, ← iterV_add, iter_mod hfx, ← ei]
        exact hmax _ (Nat.mod_lt _ (by omega))
      rw [← ei] at h1
      have : z ≠ iterV ks j z := fun h => h1 h.symm
      grind
/-- the pairs, mirrored by the law -/
theorem turnL_pair {p : Kn} (h : p.1 ≤ p.2) : turnL [p.1, p.2] = [-p.2, -p.1] := by
  have e : turnL [p.1, p.2] = [-p.1, -p.2].drop (if -p.2 < -p.1 then 1 else 0) ++ [-p.1, -p.2].take (if -p.2 < -p.1 then 1 else 0) := by
    unfold turnL
    have : leastAt ([p.1, p.2].map fun x => -x) [p.1, p.2].length = if -p.2 < -p.1 then 1 else 0 := by
      show leastAt [-p.1, -p.2] 2 = _
      have h1 : leastAt [-p.1, -p.2] 1 = 0 := by
        rw [leastAt]
        split <;> rfl
      rw [leastAt, h1]
      rfl
    rw [this]
    rfl
  rw [e]
  split
  · rfl
  · have : p.1 = p.2 := by grind
    rw [this]
    rfl
theorem mirP_rows {ps : List Kn} (c : Canon ps) : (ps.map fun p => [p.1, p.2]).map turnL = (mirP ps).reverse.map fun p => [p.1, p.2] := by
  unfold mirP
  rw [List.reverse_reverse, List.map_map, List.map_map]
  exact List.map_congr_left fun p hp => turnL_pair (c.1 p hp)
/-! ### a list that is only read, and a new one -/
def catK (m : Mu) (x : D) (ys : List D) (R : List D → Mu → Prop) : Prop := match x with
  | .tup _ => False
  | x => match seqOf m x with
    | some xs => xs.length + ys.length ≤ sizeLine ∧ R (xs ++ ys) m
    | none => False
def nCatXN (ta : DTE) (u : DTA) : DTA := fun r m R => ta r m fun x m1 => u r m1 fun ys m2 => catK m2 x ys R
theorem u_nCatXN {ta : DTE} {u : DTA} {r : DSt} {m : Mu} {R : List D → Mu → Prop} : nCatXN ta u r m R = ta r m fun x m1 => u r m1 fun ys m2 => catK m2 x ys R := id rfl
theorem catK_rl {m : Mu} {xs ys : List D} {R : List D → Mu → Prop} : catK m (.rl xs) ys R = (xs.length + ys.length ≤ sizeLine ∧ R (xs ++ ys) m) := id rfl
def rCatR (K : PySem.W.Frag) : R2 := fun x y H Q => ∃ l b xs zs, x = .ref l ∧ y = .ref b ∧ SqL K H l xs ∧ H b = some (.lst zs) ∧ xs.length + zs.length ≤ sizeLine ∧ ∀ p, H p = none → Q (.ref p) (upd H p (.lst (xs ++ zs)))
theorem op_catR {X : Cx} : OpR X (binaryOp .Add) (rCatR X.K) := by
  intro pins s σ H x y v u Q I rx ry h
  obtain ⟨l, b, xs, zs, rfl, rfl, hH, hB, hz, q⟩ := h
  cases rx
  cases ry
  obtain ⟨its, rv, ht, _⟩ := I.list hH
  obtain ⟨⟨cls, dd, data, sl⟩, ho, hc, n, hd⟩ := ht.isList
  have hc : cls = _ := hc
  have hd : data = _ := hd
  subst hc hd
  obtain ⟨_, its2, n2, r2, hl2, e2⟩ := I.lstM hB
  have hl := rv.length
  have ea : its.toArray ++ its2.toArray = (its ++ its2).toArray := by simp
  have hsz : its.toArray.size + its2.toArray.size ≤ sizeLine := by
    rw [List.size_toArray, List.size_toArray]
    omega
  have fin : EP X pins σ Q (.ref s.heap.objs.size) { s with heap := s.heap.push { cls := .type "list", data := .seq (its.toArray ++ its2.toArray) } } := by
    rw [ea]
    exact ⟨.ref _, _, I.lnew (t' := s.toks) (rv.append r2) (by rw [List.length_append]; omega), rfl, q _ I.fresh⟩
  exact concat_meets ⟨_, ho, rfl⟩ ⟨_, e2, rfl⟩
    noFill_list_add seq_list_add
    PySem.F.slot_list_add
    PySem.F.entry_list_add
    (PySem.F.args_list_add_2 _ _)
    (list_addW l b its.toArray its2.toArray n n2 dd _ sl _ hsz)
    ⟨ho, e2, fin⟩
theorem dn_catXN {X : Cx} {a b : Expr} {ta : DTE} {u : DTA} {pos : Pos} (ha : DE X a ta) (hb : DN X b u) : DN X (.BinOp a .Add b pos) (nCatXN ta u) :=
  ⟨(pe_op op_catR ha.p hb.p).of fun s H Q ⟨r, m, R, hs, M, h, q⟩ => ⟨r, m, _, hs, M, h, fun x m1 v H1 h1 s1 M1 q1 => ⟨r, m1, _, hs.keep s1.keep, M1, h1, fun ys m2 b ws H2 h2 s2 M2 hb hmb hHb ry => by
    have st := s1.trans s2
    unfold catK at h2
    split at h2
    · exact h2.elim
    · rename_i hn2
      split at h2
      · rename_i xs exs
        obtain ⟨a, vs, rfl, hv, rv⟩ := seqOf_list M2 (q1.keep s2.keep) exs (fun ds e => hn2 ds e)
        exact ⟨a, b, vs, ws, rfl, rfl, hv, hb, by rw [← rv.length, ← ry.length]; exact h2.1, fun p hp => q _ _ _ _ _ h2.2 (st.trans (Step.new hp)) (M2.new hp) upd_same (M2.free hp) (st.th _ hp) ((rv.append ry).keep (Keep.new hp))⟩
      · exact h2.elim⟩⟩⟩

local macro_rules
  | `(tactic| wide_line with ($a:term, $bs:term,*)) => `(tactic| simp only [$a:term, $[$bs:term],*, ↓bK_bl, ↓lstK_lst, ↓intK_int, ↓optK_some, ↓tBool_, ↓dAndV_, ↓gI_, ↓gI0_, ↓gAdd_int, ↓gAdd_tup, ↓gAdd_ref, ↓gNeg_, ↓gIx_tup, ↓gIx_ref, ↓atK_0, ↓atK_1, ↓atK_2, ↓atK_3, ↓atK_last, ↓setK_0, ↓setK_2, ↓gLen_tup, ↓gLen_rl, ↓gLen_ref, ↓gTupleOf_ref, ↓seqK_tup, ↓seqK_ref, ↓nListOf_, ↓isLst_ref, ↓gAppend_, ↓refK_ref, ↓dExtN_, ↓gExt_, ↓gSetIx_, ↓itK_some, ↓iRow_, ↓rowIt_tup, ↓rowIt_rl, ↓iRng1_, ↓iRng2_, ↓iZip_, ↓gNil_, ↓gCons_, ↓gTup_, ↓gAbs_, ↓gMax2_, ↓gInt_bl, ↓gLe_int, ↓gEq_int, ↓gNe_int, ↓oNone_, ↓oSome_, ↓gStep_tup, ↓gCut_tup, ↓gCut_ref, ↓rowK_ref, ↓nCut_, ↓nRev_, ↓nCatEN_, ↓nRep_, ↓dIxN_, ↓sAug_, ↓gMax4_, ↓nZip_, ↓zK_tup, ↓zK_ref, ↓dVar_0, ↓dVar_1, ↓dVar_2, ↓dVar_3, ↓dVar_4, ↓dVar_5, ↓dVar_6, ↓dVar_7, ↓dVar_8, ↓dVar_9, ↓dVar_10, ↓dVar_11, ↓sz_0, ↓sz_1, ↓sz_2, ↓sz_3, ↓sz_4, ↓sz_5, ↓sz_6, ↓u_sSeq, ↓u_sNext, ↓u_sSet, ↓u_sSetN, ↓u_sAsg, ↓u_sIf, ↓u_sRet, ↓u_sDrop, ↓u_sPar, ↓u_sFor, ↓u_dC, ↓u_d2, ↓u_d1, ↓u_dTup, ↓u_dNew, ↓u_aNil, ↓u_aCons, ↓u_nLst, ↓u_tAnd', ↓u_tOr', ↓u_tNot', ↓u_gName', ↓u_dCall, ↓u_dB, ↓u_dTupN, ↓u_dM, ↓u_iNew, ↓u_nLc, ↓u_dCut, ↓u_nCutN, ↓u_nCatNN, ↓u_d2N, ↓u_dNN, ↓u_tYes', ↓u_dStep, ↓u_nSgn, List.set_cons_zero, List.set_cons_succ, dwipe, ite_true, ite_false, Bool.false_eq_true, Bool.true_eq_false, Bool.not_true, Bool.not_false, beq_self_eq_true, decide_eq_true_eq, Bool.not_eq_true', decide_eq_false_iff_not, mput_same, mput_put, dends, List.length_cons, List.length_nil, true_and, and_true, Nat.reduceAdd, Nat.reduceEqDiff, Int.reduceToNat, ↓x_fr0, ↓x_fr1, ↓x_kn0, ↓x_kn1, ↓x_map, ↓x_at0, ↓x_len, ↓x_row, ↓x_cut, ↓x_tup2])
  | `(tactic| wide_line with $a:ident) => `(tactic| simp only [$a:ident, ↓bK_bl, ↓lstK_lst, ↓intK_int, ↓optK_some, ↓tBool_, ↓dAndV_, ↓gI_, ↓gI0_, ↓gAdd_int, ↓gAdd_tup, ↓gAdd_ref, ↓gNeg_, ↓gIx_tup, ↓gIx_ref, ↓atK_0, ↓atK_1, ↓atK_2, ↓atK_3, ↓atK_last, ↓setK_0, ↓setK_2, ↓gLen_tup, ↓gLen_rl, ↓gLen_ref, ↓gTupleOf_ref, ↓seqK_tup, ↓seqK_ref, ↓nListOf_, ↓isLst_ref, ↓gAppend_, ↓refK_ref, ↓dExtN_, ↓gExt_, ↓gSetIx_, ↓itK_some, ↓iRow_, ↓rowIt_tup, ↓rowIt_rl, ↓iRng1_, ↓iRng2_, ↓iZip_, ↓gNil_, ↓gCons_, ↓gTup_, ↓gAbs_, ↓gMax2_, ↓gInt_bl, ↓gLe_int, ↓gEq_int, ↓gNe_int, ↓oNone_, ↓oSome_, ↓gStep_tup, ↓gCut_tup, ↓gCut_ref, ↓rowK_ref, ↓nCut_, ↓nRev_, ↓nCatEN_, ↓nRep_, ↓dIxN_, ↓sAug_, ↓gMax4_, ↓nZip_, ↓zK_tup, ↓zK_ref, ↓dVar_0, ↓dVar_1, ↓dVar_2, ↓dVar_3, ↓dVar_4, ↓dVar_5, ↓dVar_6, ↓dVar_7, ↓dVar_8, ↓dVar_9, ↓dVar_10, ↓dVar_11, ↓sz_0, ↓sz_1, ↓sz_2, ↓sz_3, ↓sz_4, ↓sz_5, ↓sz_6, ↓u_sSeq, ↓u_sNext, ↓u_sSet, ↓u_sSetN, ↓u_sAsg, ↓u_sIf, ↓u_sRet, ↓u_sDrop, ↓u_sPar, ↓u_sFor, ↓u_dC, ↓u_d2, ↓u_d1, ↓u_dTup, ↓u_dNew, ↓u_aNil, ↓u_aCons, ↓u_nLst, ↓u_tAnd', ↓u_tOr', ↓u_tNot', ↓u_gName', ↓u_dCall, ↓u_dB, ↓u_dTupN, ↓u_dM, ↓u_iNew, ↓u_nLc, ↓u_dCut, ↓u_nCutN, ↓u_nCatNN, ↓u_d2N, ↓u_dNN, ↓u_tYes', ↓u_dStep, ↓u_nSgn, List.set_cons_zero, List.set_cons_succ, dwipe, ite_true, ite_false, Bool.false_eq_true, Bool.true_eq_false, Bool.not_true, Bool.not_false, beq_self_eq_true, decide_eq_true_eq, Bool.not_eq_true', decide_eq_false_iff_not, mput_same, mput_put, dends, List.length_cons, List.length_nil, true_and, and_true, Nat.reduceAdd, Nat.reduceEqDiff, Int.reduceToNat, ↓x_fr0, ↓x_fr1, ↓x_kn0, ↓x_kn1, ↓x_map, ↓x_at0, ↓x_len, ↓x_row, ↓x_cut, ↓x_tup2])
  | `(tactic| wide_line) => `(tactic| simp only [↓bK_bl, ↓lstK_lst, ↓intK_int, ↓optK_some, ↓tBool_, ↓dAndV_, ↓gI_, ↓gI0_, ↓gAdd_int, ↓gAdd_tup, ↓gAdd_ref, ↓gNeg_, ↓gIx_tup, ↓gIx_ref, ↓atK_0, ↓atK_1, ↓atK_2, ↓atK_3, ↓atK_last, ↓setK_0, ↓setK_2, ↓gLen_tup, ↓gLen_rl, ↓gLen_ref, ↓gTupleOf_ref, ↓seqK_tup, ↓seqK_ref, ↓nListOf_, ↓isLst_ref, ↓gAppend_, ↓refK_ref, ↓dExtN_, ↓gExt_, ↓gSetIx_, ↓itK_some, ↓iRow_, ↓rowIt_tup, ↓rowIt_rl, ↓iRng1_, ↓iRng2_, ↓iZip_, ↓gNil_, ↓gCons_, ↓gTup_, ↓gAbs_, ↓gMax2_, ↓gInt_bl, ↓gLe_int, ↓gEq_int, ↓gNe_int, ↓oNone_, ↓oSome_, ↓gStep_tup, ↓gCut_tup, ↓gCut_ref, ↓rowK_ref, ↓nCut_, ↓nRev_, ↓nCatEN_, ↓nRep_, ↓dIxN_, ↓sAug_, ↓gMax4_, ↓nZip_, ↓zK_tup, ↓zK_ref, ↓dVar_0, ↓dVar_1, ↓dVar_2, ↓dVar_3, ↓dVar_4, ↓dVar_5, ↓dVar_6, ↓dVar_7, ↓dVar_8, ↓dVar_9, ↓dVar_10, ↓dVar_11, ↓sz_0, ↓sz_1, ↓sz_2, ↓sz_3, ↓sz_4, ↓sz_5, ↓sz_6, ↓u_sSeq, ↓u_sNext, ↓u_sSet, ↓u_sSetN, ↓u_sAsg, ↓u_sIf, ↓u_sRet, ↓u_sDrop, ↓u_sPar, ↓u_sFor, ↓u_dC, ↓u_d2, ↓u_d1, ↓u_dTup, ↓u_dNew, ↓u_aNil, ↓u_aCons, ↓u_nLst, ↓u_tAnd', ↓u_tOr', ↓u_tNot', ↓u_gName', ↓u_dCall, ↓u_dB, ↓u_dTupN, ↓u_dM, ↓u_iNew, ↓u_nLc, ↓u_dCut, ↓u_nCutN, ↓u_nCatNN, ↓u_d2N, ↓u_dNN, ↓u_tYes', ↓u_dStep, ↓u_nSgn, List.set_cons_zero, List.set_cons_succ, dwipe, ite_true, ite_false, Bool.false_eq_true, Bool.true_eq_false, Bool.not_true, Bool.not_false, beq_self_eq_true, decide_eq_true_eq, Bool.not_eq_true', decide_eq_false_iff_not, mput_same, mput_put, dends, List.length_cons, List.length_nil, true_and, and_true, Nat.reduceAdd, Nat.reduceEqDiff, Int.reduceToNat, ↓x_fr0, ↓x_fr1, ↓x_kn0, ↓x_kn1, ↓x_map, ↓x_at0, ↓x_len, ↓x_row, ↓x_cut, ↓x_tup2])
local macro_rules
  | `(tactic| wide_open with ($a:term, $bs:term,*)) => `(tactic| simp only [$a:term, $[$bs:term],*, ↓bK_bl, ↓lstK_lst, ↓intK_int, ↓optK_some, ↓tBool_, ↓dAndV_, ↓gI_, ↓gI0_, ↓gAdd_int, ↓gAdd_tup, ↓gAdd_ref, ↓gNeg_, ↓gIx_tup, ↓gIx_ref, ↓atK_0, ↓atK_1, ↓atK_2, ↓atK_3, ↓atK_last, ↓setK_0, ↓setK_2, ↓gLen_tup, ↓gLen_rl, ↓gLen_ref, ↓gTupleOf_ref, ↓seqK_tup, ↓seqK_ref, ↓nListOf_, ↓isLst_ref, ↓gAppend_, ↓refK_ref, ↓dExtN_, ↓gExt_, ↓gSetIx_, ↓itK_some, ↓iRow_, ↓rowIt_tup, ↓rowIt_rl, ↓iRng1_, ↓iRng2_, ↓iZip_, ↓gNil_, ↓gCons_, ↓gTup_, ↓gAbs_, ↓gMax2_, ↓gInt_bl, ↓gLe_int, ↓gEq_int, ↓gNe_int, ↓oNone_, ↓oSome_, ↓gStep_tup, ↓gCut_tup, ↓gCut_ref, ↓rowK_ref, ↓nCut_, ↓nRev_, ↓nCatEN_, ↓nRep_, ↓dIxN_, ↓sAug_, ↓gIn_, ↓gEqNN_, ↓gMax4_, ↓nZip_, ↓zK_tup, ↓zK_ref, ↓dVar_0, ↓dVar_1, ↓dVar_2, ↓dVar_3, ↓dVar_4, ↓dVar_5, ↓dVar_6, ↓dVar_7, ↓dVar_8, ↓dVar_9, ↓dVar_10, ↓dVar_11, ↓sz_0, ↓sz_1, ↓sz_2, ↓sz_3, ↓sz_4, ↓sz_5, ↓sz_6, ↓u_sSeq, ↓u_sNext, ↓u_sSet, ↓u_sSetN, ↓u_sAsg, ↓u_sIf, ↓u_sRet, ↓u_sDrop, ↓u_sPar, ↓u_sFor, ↓u_dC, ↓u_d2, ↓u_d1, ↓u_dTup, ↓u_dNew, ↓u_aNil, ↓u_aCons, ↓u_nLst, ↓u_tAnd', ↓u_tOr', ↓u_tNot', ↓u_gName', ↓u_dCall, ↓u_dB, ↓u_dTupN, ↓u_dM, ↓u_iNew, ↓u_nLc, ↓u_dCut, ↓u_nCutN, ↓u_nCatNN, ↓u_d2N, ↓u_dNN, ↓u_tYes', ↓u_dStep, ↓u_nSgn, List.set_cons_zero, List.set_cons_succ, dwipe, ite_true, ite_false, Bool.false_eq_true, Bool.true_eq_false, Bool.not_true, Bool.not_false, beq_self_eq_true, decide_eq_true_eq, Bool.not_eq_true', decide_eq_false_iff_not, mput_same, mput_put, dends, List.length_cons, List.length_nil, true_and, and_true, Nat.reduceAdd, Nat.reduceEqDiff, Int.reduceToNat])
  | `(tactic| wide_open with $a:ident) => `(tactic| simp only [$a:ident, ↓bK_bl, ↓lstK_lst, ↓intK_int, ↓optK_some, ↓tBool_, ↓dAndV_, ↓gI_, ↓gI0_, ↓gAdd_int, ↓gAdd_tup, ↓gAdd_ref, ↓gNeg_, ↓gIx_tup, ↓gIx_ref, ↓atK_0, ↓atK_1, ↓atK_2, ↓atK_3, ↓atK_last, ↓setK_0, ↓setK_2, ↓gLen_tup, ↓gLen_rl, ↓gLen_ref, ↓gTupleOf_ref, ↓seqK_tup, ↓seqK_ref, ↓nListOf_, ↓isLst_ref, ↓gAppend_, ↓refK_ref, ↓dExtN_, ↓gExt_, ↓gSetIx_, ↓itK_some, ↓iRow_, ↓rowIt_tup, ↓rowIt_rl, ↓iRng1_, ↓iRng2_, ↓iZip_, ↓gNil_, ↓gCons_, ↓gTup_, ↓gAbs_, ↓gMax2_, ↓gInt_bl, ↓gLe_int, ↓gEq_int, ↓gNe_int, ↓oNone_, ↓oSome_, ↓gStep_tup, ↓gCut_tup, ↓gCut_ref, ↓rowK_ref, ↓nCut_, ↓nRev_, ↓nCatEN_, ↓nRep_, ↓dIxN_, ↓sAug_, ↓gIn_, ↓gEqNN_, ↓gMax4_, ↓nZip_, ↓zK_tup, ↓zK_ref, ↓dVar_0, ↓dVar_1, ↓dVar_2, ↓dVar_3, ↓dVar_4, ↓dVar_5, ↓dVar_6, ↓dVar_7, ↓dVar_8, ↓dVar_9, ↓dVar_10, ↓dVar_11, ↓sz_0, ↓sz_1, ↓sz_2, ↓sz_3, ↓sz_4, ↓sz_5, ↓sz_6, ↓u_sSeq, ↓u_sNext, ↓u_sSet, ↓u_sSetN, ↓u_sAsg, ↓u_sIf, ↓u_sRet, ↓u_sDrop, ↓u_sPar, ↓u_sFor, ↓u_dC, ↓u_d2, ↓u_d1, ↓u_dTup, ↓u_dNew, ↓u_aNil, ↓u_aCons, ↓u_nLst, ↓u_tAnd', ↓u_tOr', ↓u_tNot', ↓u_gName', ↓u_dCall, ↓u_dB, ↓u_dTupN, ↓u_dM, ↓u_iNew, ↓u_nLc, ↓u_dCut, ↓u_nCutN, ↓u_nCatNN, ↓u_d2N, ↓u_dNN, ↓u_tYes', ↓u_dStep, ↓u_nSgn, List.set_cons_zero, List.set_cons_succ, dwipe, ite_true, ite_false, Bool.false_eq_true, Bool.true_eq_false, Bool.not_true, Bool.not_false, beq_self_eq_true, decide_eq_true_eq, Bool.not_eq_true', decide_eq_false_iff_not, mput_same, mput_put, dends, List.length_cons, List.length_nil, true_and, and_true, Nat.reduceAdd, Nat.reduceEqDiff, Int.reduceToNat])
  | `(tactic| wide_open) => `(tactic| simp only [↓bK_bl, ↓lstK_lst, ↓intK_int, ↓optK_some, ↓tBool_, ↓dAndV_, ↓gI_, ↓gI0_, ↓gAdd_int, ↓gAdd_tup, ↓gAdd_ref, ↓gNeg_, ↓gIx_tup, ↓gIx_ref, ↓atK_0, ↓atK_1, ↓atK_2, ↓atK_3, ↓atK_last, ↓setK_0, ↓setK_2, ↓gLen_tup, ↓gLen_rl, ↓gLen_ref, ↓gTupleOf_ref, ↓seqK_tup, ↓seqK_ref, ↓nListOf_, ↓isLst_ref, ↓gAppend_, ↓refK_ref, ↓dExtN_, ↓gExt_, ↓gSetIx_, ↓itK_some, ↓iRow_, ↓rowIt_tup, ↓rowIt_rl, ↓iRng1_, ↓iRng2_, ↓iZip_, ↓gNil_, ↓gCons_, ↓gTup_, ↓gAbs_, ↓gMax2_, ↓gInt_bl, ↓gLe_int, ↓gEq_int, ↓gNe_int, ↓oNone_, ↓oSome_, ↓gStep_tup, ↓gCut_tup, ↓gCut_ref, ↓rowK_ref, ↓nCut_, ↓nRev_, ↓nCatEN_, ↓nRep_, ↓dIxN_, ↓sAug_, ↓gIn_, ↓gEqNN_, ↓gMax4_, ↓nZip_, ↓zK_tup, ↓zK_ref, ↓dVar_0, ↓dVar_1, ↓dVar_2, ↓dVar_3, ↓dVar_4, ↓dVar_5, ↓dVar_6, ↓dVar_7, ↓dVar_8, ↓dVar_9, ↓dVar_10, ↓dVar_11, ↓sz_0, ↓sz_1, ↓sz_2, ↓sz_3, ↓sz_4, ↓sz_5, ↓sz_6, ↓u_sSeq, ↓u_sNext, ↓u_sSet, ↓u_sSetN, ↓u_sAsg, ↓u_sIf, ↓u_sRet, ↓u_sDrop, ↓u_sPar, ↓u_sFor, ↓u_dC, ↓u_d2, ↓u_d1, ↓u_dTup, ↓u_dNew, ↓u_aNil, ↓u_aCons, ↓u_nLst, ↓u_tAnd', ↓u_tOr', ↓u_tNot', ↓u_gName', ↓u_dCall, ↓u_dB, ↓u_dTupN, ↓u_dM, ↓u_iNew, ↓u_nLc, ↓u_dCut, ↓u_nCutN, ↓u_nCatNN, ↓u_d2N, ↓u_dNN, ↓u_tYes', ↓u_dStep, ↓u_nSgn, List.set_cons_zero, List.set_cons_succ, dwipe, ite_true, ite_false, Bool.false_eq_true, Bool.true_eq_false, Bool.not_true, Bool.not_false, beq_self_eq_true, decide_eq_true_eq, Bool.not_eq_true', decide_eq_false_iff_not, mput_same, mput_put, dends, List.length_cons, List.length_nil, true_and, and_true, Nat.reduceAdd, Nat.reduceEqDiff, Int.reduceToNat])

/-! ### law_fraction -/
def t_law_fraction_b3 : DTS :=
  (sPar 2 3 (dVar 3) (dMod (dVar 2) (dVar 3)))
def t_law_fraction_s4 : DTS :=
  (sRet (dTup (aCons (dDiv (dVar 0) (dVar 2)) (aCons (dDiv (dVar 1) (dVar 2)) aNil))))
def t_law_fraction_s2 : DTS :=
  (sSeq (sWhile (tBool (dGt (dVar 3) (dC (.int 0)))) t_law_fraction_b3) t_law_fraction_s4)
def t_law_fraction_s1 : DTS :=
  (sSeq (sSet 3 (dVar 1)) t_law_fraction_s2)
def t_law_fraction : DTS :=
  (sSeq (sSet 2 (dB gMax2 (aCons (dVar 0) (aCons (dSub (dC (.int 0)) (dVar 0)) aNil)))) t_law_fraction_s1)
abbrev sp_law_fraction : DSp := spQuotP
theorem len_law_fraction : ∀ ds m R E, sp_law_fraction ds m R E → ds.length = (["upper", "below"] : List Str).length := by
  rintro ds m R E ⟨a, b, rfl, _⟩; rfl
theorem rd_law_fraction : ∀ ds m R E, sp_law_fraction ds m R E → t_law_fraction (dends R) (dstart 4 ds) m := by
  rintro ds m R E ⟨a, b, rfl, h0, hb, hR⟩
  show t_law_fraction (dends R) [some (.int a), some (.int b), none, none] m
  wide_open with (t_law_fraction, t_law_fraction_s1, t_law_fraction_s2)
  have ea : (if 0 - a > a then 0 - a else a) = (a.natAbs : Int) := by split <;> omega
  rw [ea]
  refine ⟨b.toNat + 1, gcd_while (fun x y => [some (.int a), some (.int b), some (.int x), some (.int y)]) m _ ?_ ?_ _ _ _ (by omega) (by omega) (by omega) ?_⟩
  · intro x y W hW
    wide_open
    exact hW
  · intro x y F hy hF
    wide_open with t_law_fraction_b3
    exact ⟨hy, hF⟩
  · rw [gcd_abs]
    wide_open with t_law_fraction_s4
    rw [fr_div h0] at hR
    exact ⟨divW (gcd_pos h0) (gcd_lt h0 hb) (by decide), divW (gcd_pos h0) (gcd_lt h0 hb) (by decide), fin_of hR⟩

/-! ### law_plus -/
def t_law_plus : DTS :=
  (sRet (dCall sp_law_fraction (aCons (dPlus (dMul (dIx (dVar 0) (dC (.int 0))) (dIx (dVar 1) (dC (.int 1)))) (dMul (dIx (dVar 1) (dC (.int 0))) (dIx (dVar 0) (dC (.int 1))))) (aCons (dMul (dIx (dVar 0) (dC (.int 1))) (dIx (dVar 1) (dC (.int 1)))) aNil))))
abbrev sp_law_plus : DSp := spR2 fun p q => p + q
theorem len_law_plus : ∀ ds m R E, sp_law_plus ds m R E → ds.length = (["one", "other"] : List Str).length := len_spR2
theorem rd_law_plus : ∀ ds m R E, sp_law_plus ds m R E → t_law_plus (dends R) (dstart 2 ds) m := by
  rintro ds m R E ⟨p, q, rfl, hp, hq, hR⟩
  show t_law_plus (dends R) [some (fr p), some (fr q)] m
  wide_open with (t_law_plus, fr)
  have h0 := den_mul_pos p q
  refine ⟨mulW hp.1 hq.d (by decide), mulW hq.1 hp.d (by decide), mulW hp.d hq.d (by decide), _, _, rfl, by omega, nn_lt hp.d hq.d (by decide), ?_⟩
  rw [← add_eq]
  exact fin_of hR

/-! ### law_less -/
def t_law_less : DTS :=
  (sRet (dCall sp_law_plus (aCons (dVar 0) (aCons (dTup (aCons (dSub (dC (.int 0)) (dIx (dVar 1) (dC (.int 0)))) (aCons (dIx (dVar 1) (dC (.int 1))) aNil))) aNil))))
abbrev sp_law_less : DSp := spR2 fun p q => p - q
theorem len_law_less : ∀ ds m R E, sp_law_less ds m R E → ds.length = (["one", "other"] : List Str).length := len_spR2
theorem rd_law_less : ∀ ds m R E, sp_law_less ds m R E → t_law_less (dends R) (dstart 2 ds) m := by
  rintro ds m R E ⟨p, q, rfl, hp, hq, hR⟩
  show t_law_less (dends R) [some (fr p), some (fr q)] m
  wide_open with (t_law_less, fr)
  refine ⟨p, -q, ?_, hp, hq.neg, ?_⟩
  · unfold fr
    rw [Rat.neg_num, Rat.neg_den]
    simp
  · show fin R (fr (p + -q)) m
    rw [← Rat.sub_eq_add_neg]
    exact fin_of hR

/-! ### law_times -/
def t_law_times : DTS :=
  (sRet (dCall sp_law_fraction (aCons (dMul (dIx (dVar 0) (dC (.int 0))) (dIx (dVar 1) (dC (.int 0)))) (aCons (dMul (dIx (dVar 0) (dC (.int 1))) (dIx (dVar 1) (dC (.int 1)))) aNil))))
abbrev sp_law_times : DSp := spR2 fun p q => p * q
theorem len_law_times : ∀ ds m R E, sp_law_times ds m R E → ds.length = (["one", "other"] : List Str).length := len_spR2
theorem rd_law_times : ∀ ds m R E, sp_law_times ds m R E → t_law_times (dends R) (dstart 2 ds) m := by
  rintro ds m R E ⟨p, q, rfl, hp, hq, hR⟩
  show t_law_times (dends R) [some (fr p), some (fr q)] m
  wide_open with (t_law_times, fr)
  have h0 := den_mul_pos p q
  refine ⟨mulW hp.1 hq.1 (by decide), mulW hp.d hq.d (by decide), _, _, rfl, by omega, nn_lt hp.d hq.d (by decide), ?_⟩
  rw [← mul_eq]
  exact fin_of hR

/-! ### law_bends -/
def t_law_bends_s4 : DTS :=
  (sIf (tBool (dNe (dCall sp_law_times (aCons (dIx (dVar 3) (dC (.int 1))) (aCons (dIx (dVar 4) (dC (.int 0))) aNil))) (dCall sp_law_times (aCons (dIx (dVar 4) (dC (.int 1))) (aCons (dIx (dVar 3) (dC (.int 0))) aNil))))) (sDrop (dM gAppend (dVar 1) (aCons (dIx (dVar 0) (dVar 2)) aNil))) sNext)
def t_law_bends_s3 : DTS :=
  (sSeq (sSetN 4 (nLc (iRow (dTup (aCons (dC (.int 0)) (aCons (dC (.int 1)) aNil)))) (gName' 5) tYes' (dCall sp_law_less (aCons (dIx (dIx (dVar 0) (dPlus (dVar 2) (dC (.int 1)))) (dVar 5)) (aCons (dIx (dIx (dVar 0) (dVar 2)) (dVar 5)) aNil))) [5])) t_law_bends_s4)
def t_law_bends_b2 : DTS :=
  (sSeq (sSetN 3 (nLc (iRow (dTup (aCons (dC (.int 0)) (aCons (dC (.int 1)) aNil)))) (gName' 5) tYes' (dCall sp_law_less (aCons (dIx (dIx (dVar 0) (dVar 2)) (dVar 5)) (aCons (dIx (dIx (dVar 1) (dNeg (dC (.int 1)))) (dVar 5)) aNil))) [5])) t_law_bends_s3)
def t_law_bends_s5 : DTS :=
  (sRet (dNew (nCatEN (dVar 1) (nLst (aCons (dIx (dVar 0) (dNeg (dC (.int 1)))) aNil)))))
def t_law_bends_s1 : DTS :=
  (sSeq (sFor (iRng2' (dC (.int 1)) (dSub (dB gLen (aCons (dVar 0) aNil)) (dC (.int 1)))) (gName' 2) t_law_bends_b2) t_law_bends_s5)
def t_law_bends : DTS :=
  (sSeq (sSetN 1 (nLst (aCons (dIx (dVar 0) (dC (.int 0))) aNil))) t_law_bends_s1)
def sp_law_bends : DSp := fun ds m R _ => ∃ (ks : List Kn), ds = [mapD ks] ∧ 2 ≤ ks.length ∧ ks.length ≤ 1000 ∧ Inc ks ∧ BdK 400 ks ∧ ∀ f, m f = none → R (.ref f) (mput m f (.lst ((leastK ks).map knD)))
theorem len_law_bends : ∀ ds m R E, sp_law_bends ds m R E → ds.length = (["knots"] : List Str).length := by
  rintro ds m R E ⟨a, rfl, _⟩; rfl
theorem slp_cross {a k n : Kn} (h1 : a.1 < k.1) (h2 : k.1 < n.1) : (k.2 - a.2) * (n.1 - k.1) = (n.2 - k.2) * (k.1 - a.1) ↔ slp a k = slp k n := by
  have e1 := slp_mul h1
  have e2 := slp_mul h2
  have n1 : k.1 - a.1 ≠ 0 := by grind
  have n2 : n.1 - k.1 ≠ 0 := by grind
  rw [← e1, ← e2]
  constructor
  · intro h
    have : (slp a k - slp k n) * ((k.1 - a.1) * (n.1 - k.1)) = 0 := by grind
    rcases Rat.mul_eq_zero.mp this with q | q
    · grind
    · rcases Rat.mul_eq_zero.mp q with q | q
      · exact absurd q n1
      · exact absurd q n2
  · intro h
    rw [h]
    grind
theorem rd_law_bends : ∀ ds m R E, sp_law_bends ds m R E → t_law_bends (dends R) (dstart 6 ds) m := by
  rintro ds m R E ⟨ks, rfl, h2, hl, hI, hB, hR⟩
  show t_law_bends (dends R) [some (mapD ks), none, none, none, none, none] m
  match ks, h2 with
  | a0 :: l0, h2 =>
  have h0 : l0 ≠ [] := by
    intro e
    subst e
    simp at h2
  wide_line with t_law_bends
  intro b hb
  wide_line with t_law_bends_s1
  have hn : (((l0.length + 1 : Nat) : Int) - 1 - 1).toNat = l0.length - 1 := by
    omega
  refine ⟨by simp at hl ⊢; omega, ?_⟩
  rw [hn]
  refine for_rng 1 (l0.length - 1) (fun j r M => ∃ acc last q2 q3 q4, r = [some (mapD (a0 :: l0)), some (.ref b), q2, q3, q4, none] ∧ M b = some (.lst ((acc ++ [last]).map knD)) ∧ Sub m M ∧ acc ++ last :: lk last (l0.drop j) = a0 :: lk a0 l0 ∧ Inc (last :: l0.drop j) ∧ last ∈ a0 :: l0 ∧ acc.length ≤ j) ?_ ?_ _ _ ⟨[], a0, _, _, _, rfl, mput_same, Sub.new hb, rfl, hI, List.mem_cons_self, by simp⟩
  · rintro r M ⟨acc, last, q2, q3, q4, rfl, hM, hS, e, hi, hlast, hacc⟩
    refine ⟨trivial, ?_⟩
    obtain ⟨z, ez, ez'⟩ := drop_one_cons h0
    rw [ez] at e
    have gz : ((a0 :: l0).map knD).getLast? = some (knD z) := by rw [List.getLast?_map, List.getLast?_cons, ez']; rfl
    wide_line with (t_law_bends_s5, hM)
    refine at_last gz ?_
    try wide_line
    have e2 : (acc ++ [last]).map knD ++ [knD z] = (leastK (a0 :: l0)).map knD := by
      have : leastK (a0 :: l0) = acc ++ [last, z] := by
        rw [show leastK (a0 :: l0) = a0 :: lk a0 l0 from rfl, ← e]
        rfl
      rw [this]
      simp
    rw [e2]
    refine ⟨by simp [sizeLine_eq] at hl ⊢; omega, fun h hh => ?_⟩
    exact fin_newA hS hh (fun hm' => hR h hm')
  · rintro j hj nx hnx r M ⟨acc, last, q2, q3, q4, rfl, hM, hS, e, hi, hlast, hacc⟩
    refine ⟨trivial, ?_⟩
    obtain ⟨k, n, rest, ed, ek, en, ed'⟩ := drop_two_cons (l := l0) (j := j) (by omega)
    rw [ed] at e hi
    have mk : k ∈ a0 :: l0 := List.mem_cons_of_mem _ (List.mem_of_getElem? ek)
    have mn : n ∈ a0 :: l0 := List.mem_cons_of_mem _ (List.mem_of_getElem? en)
    have gk : ((a0 :: l0).map knD)[j + 1]? = some (knD k) := by simp [ek]
    have gn : ((a0 :: l0).map knD)[j + 2]? = some (knD n) := by simp [en]
    have gl : ((acc ++ [last]).map knD).getLast? = some (knD last) := by simp
    have gk1 : ∀ k' : D → Prop, atK ((a0 :: l0).map knD) (1 + (j : Int)) k' = k' (knD k) := fun k' => at_eq (n := j + 1) (by omega) gk
    have gn1 : ∀ k' : D → Prop, atK ((a0 :: l0).map knD) (1 + (j : Int) + 1) k' = k' (knD n) := fun k' => at_eq (n := j + 2) (by omega) gn
    have gl1 : ∀ k' : D → Prop, atK ((acc ++ [last]).map knD) (-1) k' = k' (knD last) := fun k' => by
      rw [List.map_append]
      exact atK_last
    have bk := hB k mk
    have bn := hB n mn
    have bl := hB last hlast
    have s1 : Bd 4000 (k.1 - last.1) := (bk.1.sub bl.1 (c := 801)).mono (by decide)
    have s2 : Bd 4000 (k.2 - last.2) := (bk.2.sub bl.2 (c := 801)).mono (by decide)
    have s3 : Bd 4000 (n.1 - k.1) := (bn.1.sub bk.1 (c := 801)).mono (by decide)
    have s4 : Bd 4000 (n.2 - k.2) := (bn.2.sub bk.2 (c := 801)).mono (by decide)
    wide_line with (t_law_bends_b2, hM, gk1, gn1, gl1, lcL_cons, lcL_nil)
    refine ⟨_, _, rfl, bk.1.mono (by decide), bl.1.mono (by decide), by rw [sizeLine_eq]; decide, ?_⟩
    wide_line with (hM, gl1)
    refine ⟨_, _, rfl, bk.2.mono (by decide), bl.2.mono (by decide), by rw [sizeLine_eq]; exact (show 1 < 16777216 by decide), fun u hu => ?_⟩
    have bu : b ≠ u := ne_of hM hu
    have hM1 : ∀ q, mput M u q b = some (.lst ((acc ++ [last]).map knD)) := fun q => by rw [mput_ne bu]; exact hM
    have eu : O.lst ([] ++ [fr (k.1 - last.1)] ++ [fr (k.2 - last.2)]) = .lst [fr (k.1 - last.1), fr (k.2 - last.2)] := rfl
    rw [eu]
    have hS1 := hS.trans (Sub.new (o := .lst [fr (k.1 - last.1), fr (k.2 - last.2)]) hu)
    have hMu : mput M u (.lst [fr (k.1 - last.1), fr (k.2 - last.2)]) u = some (.lst [fr (k.1 - last.1), fr (k.2 - last.2)]) := mput_same
    have hMb := hM1 (.lst [fr (k.1 - last.1), fr (k.2 - last.2)])
    generalize mput M u (.lst [fr (k.1 - last.1), fr (k.2 - last.2)]) = M1 at hS1 hMu hMb ⊢
    wide_line with (t_law_bends_s3, hMb, gk1, gn1, gl1, lcL_cons, lcL_nil)
    refine ⟨_, _, rfl, bn.1.mono (by decide), bk.1.mono (by decide), by rw [sizeLine_eq]; decide, ?_⟩
    wide_line with (hMb, gl1)
    refine ⟨_, _, rfl, bn.2.mono (by decide), bk.2.mono (by decide), by rw [sizeLine_eq]; exact (show 1 < 16777216 by decide), fun v hv => ?_⟩
    have bv : b ≠ v := ne_of hMb hv
    have uv : u ≠ v := ne_of hMu hv
    have ev : O.lst ([] ++ [fr (n.1 - k.1)] ++ [fr (n.2 - k.2)]) = .lst [fr (n.1 - k.1), fr (n.2 - k.2)] := rfl
    rw [ev]
    have hS2 := hS1.trans (Sub.new (o := .lst [fr (n.1 - k.1), fr (n.2 - k.2)]) hv)
    have hMv : mput M1 v (.lst [fr (n.1 - k.1), fr (n.2 - k.2)]) v = some (.lst [fr (n.1 - k.1), fr (n.2 - k.2)]) := mput_same
    have hMu2 : mput M1 v (.lst [fr (n.1 - k.1), fr (n.2 - k.2)]) u = some (.lst [fr (k.1 - last.1), fr (k.2 - last.2)]) := by rw [mput_ne uv]; exact hMu
    have hMb2 : mput M1 v (.lst [fr (n.1 - k.1), fr (n.2 - k.2)]) b = some (.lst ((acc ++ [last]).map knD)) := by rw [mput_ne bv]; exact hMb
    generalize mput M1 v (.lst [fr (n.1 - k.1), fr (n.2 - k.2)]) = M2 at hS2 hMv hMu2 hMb2 ⊢
    wide_line with (t_law_bends_s4, hMu2, hMv, gk1, gn1, gl1)
    refine ⟨_, _, rfl, s2, s3, ?_⟩
    wide_line with (hMu2, hMv)
    refine ⟨_, _, rfl, s4, s1, ?_⟩
    refine enc_fr.gNe ?_
    try wide_line
    have hcr := slp_cross hi.lt hi.tail.lt
    rw [lk_cons] at e
    split
    · rename_i c
      rw [hcr] at c
      rw [if_neg c] at e
      try wide_line with (hMb2, gk1)
      refine ⟨⟨_, rfl⟩, by simp [sizeLine_eq] at hl ⊢; omega, ?_⟩
      refine hnx _ _ ⟨acc ++ [last], k, _, _, _, rfl, by rw [mput_same]; simp, hS2.wrB hb, ?_, ?_, mk, by simp; omega⟩
      · rw [ed', ← e]
        simp
      · rw [ed']
        exact hi.tail
    · rename_i c
      rw [hcr] at c
      rw [if_pos (Classical.not_not.mp c)] at e
      refine hnx _ _ ⟨acc, last, _, _, _, rfl, hMb2, hS2, ?_, ?_, hlast, by omega⟩
      · rw [ed']
        exact e
      · rw [ed']
        exact hi.skip

/-! ### law_draw -/
def t_law_draw_s3 : DTS :=
  (sRet (dVar 2))
def t_law_draw_s2 : DTS :=
  (sSeq (sAsg (dDiv (dIx (dVar 0) (dC (.int 0))) (dVar 1)) (gSetIx (dVar 0) (dC (.int 0)))) t_law_draw_s3)
def t_law_draw_s6 : DTS :=
  (sRet (dMod (dDiv (dVar 3) (dC (.int 7))) (dVar 1)))
def t_law_draw_s5 : DTS :=
  (sSeq (sSet 3 (dMod (dMul (dMod (dMul (dVar 3) (dVar 3)) (dC (.int 2147483629))) (dC (.int 40692))) (dC (.int 2147483399)))) t_law_draw_s6)
def t_law_draw_s4 : DTS :=
  (sSeq (sSet 3 (dMod (dMul (dPlus (dPlus (dIx (dVar 0) (dC (.int 3))) (dMul (dC (.int 6997)) (dIx (dVar 0) (dC (.int 2))))) (dC (.int 11))) (dC (.int 48271))) (dC (.int 2147483647)))) t_law_draw_s5)
def t_law_draw_s1 : DTS :=
  (sSeq (sIf (tAnd' (tBool (dEq (dIx (dVar 0) (dC (.int 1))) (dC (.int 1)))) (tBool (dGt (dIx (dVar 0) (dC (.int 0))) (dC (.int 0))))) (sSeq (sSet 2 (dMod (dIx (dVar 0) (dC (.int 0))) (dVar 1))) t_law_draw_s2) sNext) t_law_draw_s4)
def t_law_draw : DTS :=
  (sSeq (sAsg (dPlus (dIx (dVar 0) (dC (.int 2))) (dC (.int 1))) (gSetIx (dVar 0) (dC (.int 2)))) t_law_draw_s1)
abbrev sp_law_draw : DSp := spDraw
theorem len_law_draw : ∀ ds m R E, sp_law_draw ds m R E → ds.length = (["seed", "most"] : List Str).length := spDraw_len
theorem rd_law_draw : ∀ ds m R E, sp_law_draw ds m R E → t_law_draw (dends R) (dstart 4 ds) m := by
  intro ds m R E h
  unfold sp_law_draw spDraw at h
  split at h
  · rename_i a most
    obtain ⟨hs, h0, h1, hR⟩ := h
    obtain ⟨n, f, k, c, e⟩ := isSeed_of hs
    unfold seedO at e
    have tail : t_law_draw_s4 (dends R) [some (.ref a), some (.int most), none, none] (mput m a (.lst [.int n, .int f, .int (k + 1), .int c])) := by
      wide_open with (t_law_draw_s4, t_law_draw_s5, t_law_draw_s6)
      refine ⟨mul_l (by decide) (by decide), mul_r (by decide) (by decide), by decide, ?_⟩
      generalize hx : (c + 6997 * (k + 1) + 11) * 48271 % 2147483647 = x
      have x0 : 0 ≤ x := by omega
      have x1 : x < 2147483647 := by omega
      refine ⟨mul_l (by omega) (by omega), by decide, mul_r (by decide) (by decide), by decide, small_div (by decide) (by decide), h0, ?_⟩
      exact fin_of (hR _ _ trivial (Int.emod_nonneg _ (by omega)) (Int.emod_lt_of_pos _ h0))
    show t_law_draw (dends R) [some (.ref a), some (.int most), none, none] m
    simp only [t_law_draw, t_law_draw_s1, ↓bK_bl, ↓lstK_lst, ↓intK_int, ↓optK_some, ↓tBool_, ↓dAndV_, ↓gI_, ↓gI0_, ↓gAdd_int, ↓gAdd_tup, ↓gAdd_ref, ↓gNeg_, ↓gIx_tup, ↓gIx_ref, ↓atK_0, ↓atK_1, ↓atK_2, ↓atK_3, ↓atK_last, ↓setK_0, ↓setK_2, ↓gLen_tup, ↓gLen_rl, ↓gLen_ref, ↓gTupleOf_ref, ↓seqK_tup, ↓seqK_ref, ↓nListOf_, ↓isLst_ref, ↓gAppend_, ↓refK_ref, ↓dExtN_, ↓gExt_, ↓gSetIx_, ↓itK_some, ↓iRow_, ↓rowIt_tup, ↓rowIt_rl, ↓iRng1_, ↓iRng2_, ↓iZip_, ↓gNil_, ↓gCons_, ↓gTup_, ↓gAbs_, ↓gMax2_, ↓gInt_bl, ↓gLe_int, ↓gEq_int, ↓gNe_int, ↓oNone_, ↓oSome_, ↓gStep_tup, ↓gCut_tup, ↓gCut_ref, ↓rowK_ref, ↓nCut_, ↓nRev_, ↓nCatEN_, ↓nRep_, ↓dIxN_, ↓sAug_, ↓gIn_, ↓gEqNN_, ↓gMax4_, ↓nZip_, ↓zK_tup, ↓zK_ref, ↓dVar_0, ↓dVar_1, ↓dVar_2, ↓dVar_3, ↓dVar_4, ↓dVar_5, ↓dVar_6, ↓dVar_7, ↓dVar_8, ↓dVar_9, ↓dVar_10, ↓dVar_11, ↓sz_0, ↓sz_1, ↓sz_2, ↓sz_3, ↓sz_4, ↓sz_5, ↓sz_6, ↓u_sSeq, ↓u_sNext, ↓u_sSet, ↓u_sSetN, ↓u_sAsg, ↓u_sIf, ↓u_sRet, ↓u_sDrop, ↓u_sPar, ↓u_sFor, ↓u_dC, ↓u_d2, ↓u_d1, ↓u_dTup, ↓u_dNew, ↓u_aNil, ↓u_aCons, ↓u_nLst, ↓u_tAnd', ↓u_tOr', ↓u_tNot', ↓u_gName', ↓u_dCall, ↓u_dB, ↓u_dTupN, ↓u_dM, ↓u_iNew, ↓u_nLc, ↓u_dCut, ↓u_nCutN, ↓u_nCatNN, ↓u_d2N, ↓u_dNN, ↓u_tYes', ↓u_dStep, ↓u_nSgn, List.set_cons_zero, List.set_cons_succ, dwipe, ite_true, ite_false, Bool.false_eq_true, Bool.true_eq_false, Bool.not_true, Bool.not_false, beq_self_eq_true, decide_eq_true_eq, Bool.not_eq_true', decide_eq_false_iff_not, mput_same, mput_put, dends, List.length_cons, List.length_nil, true_and, and_true, Nat.reduceAdd, Nat.reduceEqDiff, Int.reduceToNat, e]
    split
    · split
      · refine ⟨h0, ?_⟩
        wide_open with (t_law_draw_s2, t_law_draw_s3)
        exact ⟨small_div h0 h1, fin_of (hR _ _ trivial (Int.emod_nonneg _ (by omega)) (Int.emod_lt_of_pos _ h0))⟩
      · exact tail
    · exact tail
  · exact h.elim

/-! ### law_over -/
def t_law_over_s1 : DTS :=
  (sRet (dCall sp_law_fraction (aCons (dMul (dMul (dIx (dVar 0) (dC (.int 0))) (dIx (dVar 1) (dC (.int 1)))) (dVar 2)) (aCons (dMul (dMul (dIx (dVar 0) (dC (.int 1))) (dIx (dVar 1) (dC (.int 0)))) (dVar 2)) aNil))))
def t_law_over : DTS :=
  (sSeq (sSet 2 (dIxN (nLst (aCons (dC (.int 1)) (aCons (dNeg (dC (.int 1))) aNil))) (dB gInt (aCons (dLt (dIx (dVar 1) (dC (.int 0))) (dC (.int 0))) aNil)))) t_law_over_s1)
abbrev sp_law_over : DSp := spRD
theorem len_law_over : ∀ ds m R E, sp_law_over ds m R E → ds.length = (["one", "other"] : List Str).length := len_spRD
theorem rd_law_over : ∀ ds m R E, sp_law_over ds m R E → t_law_over (dends R) (dstart 3 ds) m := by
  rintro ds m R E ⟨p, q, rfl, hp, hq, h0, hR⟩
  show t_law_over (dends R) [some (fr p), some (fr q), none] m
  wide_open with (t_law_over, fr)
  have n0 := num_ne h0
  have dp := den_pos p
  rcases Int.lt_or_gt_of_ne n0 with h | h
  · rw [if_pos h]
    simp only [↓bK_bl, ↓lstK_lst, ↓intK_int, ↓optK_some, ↓tBool_, ↓dAndV_, ↓gI_, ↓gI0_, ↓gAdd_int, ↓gAdd_tup, ↓gAdd_ref, ↓gNeg_, ↓gIx_tup, ↓gIx_ref, ↓atK_0, ↓atK_1, ↓atK_2, ↓atK_3, ↓atK_last, ↓setK_0, ↓setK_2, ↓gLen_tup, ↓gLen_rl, ↓gLen_ref, ↓gTupleOf_ref, ↓seqK_tup, ↓seqK_ref, ↓nListOf_, ↓isLst_ref, ↓gAppend_, ↓refK_ref, ↓dExtN_, ↓gExt_, ↓gSetIx_, ↓itK_some, ↓iRow_, ↓rowIt_tup, ↓rowIt_rl, ↓iRng1_, ↓iRng2_, ↓iZip_, ↓gNil_, ↓gCons_, ↓gTup_, ↓gAbs_, ↓gMax2_, ↓gInt_bl, ↓gLe_int, ↓gEq_int, ↓gNe_int, ↓oNone_, ↓oSome_, ↓gStep_tup, ↓gCut_tup, ↓gCut_ref, ↓rowK_ref, ↓nCut_, ↓nRev_, ↓nCatEN_, ↓nRep_, ↓dIxN_, ↓sAug_, ↓gIn_, ↓gEqNN_, ↓gMax4_, ↓nZip_, ↓zK_tup, ↓zK_ref, ↓dVar_0, ↓dVar_1, ↓dVar_2, ↓dVar_3, ↓dVar_4, ↓dVar_5, ↓dVar_6, ↓dVar_7, ↓dVar_8, ↓dVar_9, ↓dVar_10, ↓dVar_11, ↓sz_0, ↓sz_1, ↓sz_2, ↓sz_3, ↓sz_4, ↓sz_5, ↓sz_6, ↓u_sSeq, ↓u_sNext, ↓u_sSet, ↓u_sSetN, ↓u_sAsg, ↓u_sIf, ↓u_sRet, ↓u_sDrop, ↓u_sPar, ↓u_sFor, ↓u_dC, ↓u_d2, ↓u_d1, ↓u_dTup, ↓u_dNew, ↓u_aNil, ↓u_aCons, ↓u_nLst, ↓u_tAnd', ↓u_tOr', ↓u_tNot', ↓u_gName', ↓u_dCall, ↓u_dB, ↓u_dTupN, ↓u_dM, ↓u_iNew, ↓u_nLc, ↓u_dCut, ↓u_nCutN, ↓u_nCatNN, ↓u_d2N, ↓u_dNN, ↓u_tYes', ↓u_dStep, ↓u_nSgn, List.set_cons_zero, List.set_cons_succ, dwipe, ite_true, ite_false, Bool.false_eq_true, Bool.true_eq_false, Bool.not_true, Bool.not_false, beq_self_eq_true, decide_eq_true_eq, Bool.not_eq_true', decide_eq_false_iff_not, mput_same, mput_put, dends, List.length_cons, List.length_nil, true_and, and_true, Nat.reduceAdd, Nat.reduceEqDiff, Int.reduceToNat, t_law_over_s1]
    refine ⟨mulW hp.1 hq.d (by decide), mul_r (by decide) (by decide), mulW hp.d hq.1 (by decide), mul_r (by decide) (by decide), _, _, rfl, ?_, ?_, ?_⟩
    · have := Int.mul_pos dp (show 0 < -q.num by omega)
      rw [Int.mul_neg] at this
      omega
    · rw [Int.mul_neg, Int.mul_one, Int.natAbs_neg]
      exact nn_lt hp.d hq.1 (by decide)
    · rw [div_eq p q h0] at hR
      have e : ((p.num * q.den * -1 : Int) : Rat) / ((p.den * q.num * -1 : Int) : Rat) = ((p.num * q.den : Int) : Rat) / ((p.den * q.num : Int) : Rat) := by
        have a0 : ((p.den : Int) : Rat) ≠ 0 := den_ne p
        have b0 := num_ne' h0
        simp only [Rat.intCast_mul, Rat.intCast_neg]
        grind
      rw [e]
      exact fin_of hR
  · rw [if_neg (by omega)]
    simp only [↓bK_bl, ↓lstK_lst, ↓intK_int, ↓optK_some, ↓tBool_, ↓dAndV_, ↓gI_, ↓gI0_, ↓gAdd_int, ↓gAdd_tup, ↓gAdd_ref, ↓gNeg_, ↓gIx_tup, ↓gIx_ref, ↓atK_0, ↓atK_1, ↓atK_2, ↓atK_3, ↓atK_last, ↓setK_0, ↓setK_2, ↓gLen_tup, ↓gLen_rl, ↓gLen_ref, ↓gTupleOf_ref, ↓seqK_tup, ↓seqK_ref, ↓nListOf_, ↓isLst_ref, ↓gAppend_, ↓refK_ref, ↓dExtN_, ↓gExt_, ↓gSetIx_, ↓itK_some, ↓iRow_, ↓rowIt_tup, ↓rowIt_rl, ↓iRng1_, ↓iRng2_, ↓iZip_, ↓gNil_, ↓gCons_, ↓gTup_, ↓gAbs_, ↓gMax2_, ↓gInt_bl, ↓gLe_int, ↓gEq_int, ↓gNe_int, ↓oNone_, ↓oSome_, ↓gStep_tup, ↓gCut_tup, ↓gCut_ref, ↓rowK_ref, ↓nCut_, ↓nRev_, ↓nCatEN_, ↓nRep_, ↓dIxN_, ↓sAug_, ↓gIn_, ↓gEqNN_, ↓gMax4_, ↓nZip_, ↓zK_tup, ↓zK_ref, ↓dVar_0, ↓dVar_1, ↓dVar_2, ↓dVar_3, ↓dVar_4, ↓dVar_5, ↓dVar_6, ↓dVar_7, ↓dVar_8, ↓dVar_9, ↓dVar_10, ↓dVar_11, ↓sz_0, ↓sz_1, ↓sz_2, ↓sz_3, ↓sz_4, ↓sz_5, ↓sz_6, ↓u_sSeq, ↓u_sNext, ↓u_sSet, ↓u_sSetN, ↓u_sAsg, ↓u_sIf, ↓u_sRet, ↓u_sDrop, ↓u_sPar, ↓u_sFor, ↓u_dC, ↓u_d2, ↓u_d1, ↓u_dTup, ↓u_dNew, ↓u_aNil, ↓u_aCons, ↓u_nLst, ↓u_tAnd', ↓u_tOr', ↓u_tNot', ↓u_gName', ↓u_dCall, ↓u_dB, ↓u_dTupN, ↓u_dM, ↓u_iNew, ↓u_nLc, ↓u_dCut, ↓u_nCutN, ↓u_nCatNN, ↓u_d2N, ↓u_dNN, ↓u_tYes', ↓u_dStep, ↓u_nSgn, List.set_cons_zero, List.set_cons_succ, dwipe, ite_true, ite_false, Bool.false_eq_true, Bool.true_eq_false, Bool.not_true, Bool.not_false, beq_self_eq_true, decide_eq_true_eq, Bool.not_eq_true', decide_eq_false_iff_not, mput_same, mput_put, dends, List.length_cons, List.length_nil, true_and, and_true, Nat.reduceAdd, Nat.reduceEqDiff, Int.reduceToNat, t_law_over_s1]
    refine ⟨mulW hp.1 hq.d (by decide), mul_r (by decide) (by decide), mulW hp.d hq.1 (by decide), mul_r (by decide) (by decide), _, _, rfl, ?_, ?_, ?_⟩
    · have := Int.mul_pos dp h
      omega
    · rw [Int.mul_one]
      exact nn_lt hp.d hq.1 (by decide)
    · rw [div_eq p q h0] at hR
      rw [Int.mul_one, Int.mul_one]
      exact fin_of hR

/-! ### law_filled -/
def t_law_filled_s4 : DTS :=
  (sIf (tAnd' (tBool (dLt (dB gLen (aCons (dVar 1) aNil)) (dC (.int 8)))) (tBool (dLt (dB gMax4 (aCons (dB gAbs (aCons (dIx (dVar 4) (dC (.int 0))) aNil)) (aCons (dIx (dVar 4) (dC (.int 1))) (aCons (dB gAbs (aCons (dIx (dVar 5) (dC (.int 0))) aNil)) (aCons (dIx (dVar 5) (dC (.int 1))) aNil))))) (dPow (dC (.int 10)) (dC (.int 4)))))) (sSet 1 (dPlus (dPlus (dCut (dVar 1) oNone (oSome (dPlus (dVar 3) (dC (.int 1))))) (dTup (aCons (dTup (aCons (dVar 4) (aCons (dVar 5) aNil))) aNil))) (dCut (dVar 1) (oSome (dPlus (dVar 3) (dC (.int 1)))) oNone))) sNext)
def t_law_filled_s3 : DTS :=
  (sSeq (sSet 5 (dCall sp_law_over (aCons (dCall sp_law_plus (aCons (dIx (dIx (dVar 1) (dVar 3)) (dC (.int 1))) (aCons (dIx (dIx (dVar 1) (dPlus (dVar 3) (dC (.int 1)))) (dC (.int 1))) aNil))) (aCons (dTup (aCons (dC (.int 2)) (aCons (dC (.int 1)) aNil))) aNil)))) t_law_filled_s4)
def t_law_filled_s2 : DTS :=
  (sSeq (sSet 4 (dCall sp_law_over (aCons (dCall sp_law_plus (aCons (dIx (dIx (dVar 1) (dVar 3)) (dC (.int 0))) (aCons (dIx (dIx (dVar 1) (dPlus (dVar 3) (dC (.int 1)))) (dC (.int 0))) aNil))) (aCons (dTup (aCons (dC (.int 2)) (aCons (dC (.int 1)) aNil))) aNil)))) t_law_filled_s3)
def t_law_filled_b1 : DTS :=
  (sSeq (sSet 3 (dCall sp_law_draw (aCons (dVar 0) (aCons (dSub (dB gLen (aCons (dVar 1) aNil)) (dC (.int 1))) aNil)))) t_law_filled_s2)
def t_law_filled_s5 : DTS :=
  (sRet (dVar 1))
def t_law_filled : DTS :=
  (sSeq (sFor (iRng1' (dCall sp_law_draw (aCons (dVar 0) (aCons (dC (.int 7)) aNil)))) (gName' 2) t_law_filled_b1) t_law_filled_s5)
def sp_law_filled : DSp := fun ds m R _ => ∃ (a : Addr) (ks : List Kn), ds = [.ref a, mapD ks] ∧ isSeed (m a) ∧ MpA ks ∧ ks.length ≤ 8 ∧ ∀ (ks' : List Kn) (m' : Mu), MpA ks' → ks'.length ≤ 8 → loK ks' = loK ks → hiK ks' = hiK ks → (∀ t, valK ks' t = valK ks t) → isSeed (m' a) → Ext a m m' → R (mapD ks') m'
theorem len_law_filled : ∀ ds m R E, sp_law_filled ds m R E → ds.length = (["seed", "knots"] : List Str).length := by
  rintro ds m R E ⟨a, b, rfl, _⟩; rfl
theorem if_any {c : Prop} [Decidable c] {p q : Prop} (h1 : c → p) (h2 : ¬ c → q) : if c then p else q := by
  split
  · rename_i h; exact h1 h
  · rename_i h; exact h2 h
theorem mx_lt {i j k : Int} (h : mx i j < k) : i < k ∧ j < k := by
  unfold mx at h
  split at h <;> omega
theorem fr_two : D.tup [D.int 2, D.int 1] = fr 2 := rfl
theorem rd_law_filled : ∀ ds m R E, sp_law_filled ds m R E → t_law_filled (dends R) (dstart 6 ds) m := by
  rintro ds m R E ⟨a, ks, rfl, hs, hK, hl, hR⟩
  show t_law_filled (dends R) [some (.ref a), some (mapD ks), none, none, none, none] m
  wide_line with t_law_filled
  refine draw_ext hs (by omega) (by omega) fun v m1 hs1 hx v0 v1 => ?_
  try wide_line
  refine ⟨⟨by omega, by omega⟩, ?_⟩
  refine for_rng 0 v.toNat (fun j r M => ∃ (ks' : List Kn) (q2 q3 q4 q5 : Option D), r = [some (.ref a), some (mapD ks'), q2, q3, q4, q5] ∧ MpA ks' ∧ ks'.length ≤ 8 ∧ loK ks' = loK ks ∧ hiK ks' = hiK ks ∧ (∀ t, valK ks' t = valK ks t) ∧ isSeed (M a) ∧ Ext a m M) ?_ ?_ _ _ ⟨ks, _, _, _, _, rfl, hK, hl, rfl, rfl, fun _ => rfl, hs1, hx⟩
  · rintro r M ⟨ks, q2, q3, q4, q5, rfl, hK, hl, hlo, hhi, hv, hs, hx⟩
    refine ⟨trivial, ?_⟩
    wide_line with t_law_filled_s5
    exact fin_of (hR ks M hK hl hlo hhi hv hs hx)
  · rintro j hj nx hnx r M ⟨ks, q2, q3, q4, q5, rfl, hK, hl, hlo, hhi, hv, hs, hx⟩
    refine ⟨trivial, ?_⟩
    have h2 := hK.good.len
    wide_line with t_law_filled_b1
    refine draw_ext hs (by omega) (by omega) fun k M2 hs hx2 k0 k1 => ?_
    obtain ⟨k, rfl⟩ : ∃ n : Nat, k = n := ⟨k.toNat, by omega⟩
    have hkl : k + 1 < ks.length := by omega
    have gk : (ks.map knD)[k]? = some (knD ks[k]) := by simp [show k < ks.length by omega]
    have gn : (ks.map knD)[k + 1]? = some (knD ks[k + 1]) := by simp [hkl]
    have mk : ks[k] ∈ ks := List.getElem_mem _
    have mn : ks[k + 1] ∈ ks := List.getElem_mem _
    have bk := hK.bd _ mk
    have bn := hK.bd _ mn
    have s1 : Bd 29 (ks[k].1 + ks[k + 1].1) := bk.1.add bn.1
    have s2 : Bd 29 (ks[k].2 + ks[k + 1].2) := bk.2.add bn.2
    have t2 : Bd 2 (2 : Rat) := ⟨by decide, by decide⟩
    wide_line with t_law_filled_s2
    refine atK_of (n := k) rfl gk ?_
    try wide_line
    refine atK_of (n := k + 1) (by omega) gn ?_
    try wide_line
    refine ⟨_, _, rfl, bk.1.mono (by decide), bn.1.mono (by decide), ?_⟩
    rw [fr_two]
    refine ⟨_, _, rfl, s1.mono (by decide), t2.mono (by decide), by decide, ?_⟩
    wide_line with t_law_filled_s3
    refine atK_of (n := k) rfl gk ?_
    try wide_line
    refine atK_of (n := k + 1) (by omega) gn ?_
    try wide_line
    refine ⟨_, _, rfl, bk.2.mono (by decide), bn.2.mono (by decide), ?_⟩
    rw [fr_two]
    refine ⟨_, _, rfl, s2.mono (by decide), t2.mono (by decide), by decide, ?_⟩
    have r1 := (hK.good.le mk).1
    have hlt : ks[k].1 < ks[k + 1].1 := List.pairwise_iff_getElem.mp hK.good.inc k (k + 1) (by omega) (by omega) (by omega)
    obtain ⟨x, ex⟩ : ∃ x, x = (ks[k].1 + ks[k + 1].1) / 2 := ⟨_, rfl⟩
    obtain ⟨y, ey⟩ : ∃ y, y = (ks[k].2 + ks[k + 1].2) / 2 := ⟨_, rfl⟩
    rw [← ex, ← ey]
    have hx3 := hx.trans hx2
    have same : ∀ q2 q3 q4 q5, nx [some (.ref a), some (mapD ks), q2, q3, q4, q5] M2 := fun q2 q3 q4 q5 => hnx _ _ ⟨ks, _, _, _, _, rfl, hK, hl, hlo, hhi, hv, hs, hx3⟩
    wide_line with t_law_filled_s4
    refine if_any (fun h8 => ⟨by unfold CPow; decide, if_any (fun hmx => ?_) (fun _ => same _ _ _ _)⟩) (fun _ => same _ _ _ _)
    have c1 : cutD (ks.map knD) none (some ((k : Int) + 1)) = (ks.take (k + 1)).map knD := by
      rw [cutD_take (by omega), show ((k : Int) + 1).toNat = k + 1 by omega]
    have c2 : cutD (ks.map knD) (some ((k : Int) + 1)) none = (ks.drop (k + 1)).map knD := by
      rw [cutD_drop (by omega) (by omega), show ((k : Int) + 1).toNat = k + 1 by omega]
    rw [c1, c2]
    refine ⟨by simp [sizeLine_eq]; omega, by simp [sizeLine_eq]; omega, ?_⟩
    have e1 : ks = ks.take k ++ ks[k] :: ks[k + 1] :: ks.drop (k + 2) := by
      have h1 : ks.drop k = ks[k] :: ks.drop (k + 1) := List.drop_eq_getElem_cons (by omega)
      have h2 : ks.drop (k + 1) = ks[k + 1] :: ks.drop (k + 2) := List.drop_eq_getElem_cons (by omega)
      rw [← h2, ← h1, List.take_append_drop]
    have e3 : ks.take (k + 1) ++ [(x, y)] ++ ks.drop (k + 1) = ks.take k ++ ks[k] :: (x, y) :: ks[k + 1] :: ks.drop (k + 2) := by
      have h1 : ks.take (k + 1) = ks.take k ++ [ks[k]] := by rw [List.take_add_one, List.getElem?_eq_getElem (by omega)]; rfl
      have h2 : ks.drop (k + 1) = ks[k + 1] :: ks.drop (k + 2) := List.drop_eq_getElem_cons (by omega)
      rw [h1, h2, List.append_assoc, List.append_assoc]
      rfl
    have e4 : (ks.take (k + 1)).map knD ++ [D.tup [fr x, fr y]] ++ (ks.drop (k + 1)).map knD = (ks.take k ++ ks[k] :: (x, y) :: ks[k + 1] :: ks.drop (k + 2)).map knD := by
      rw [← e3, List.map_append, List.map_append]
      rfl
    have am : Amid ks[k] (x, y) ks[k + 1] := by
      refine ⟨by show ks[k].1 < x; grind, by show x < ks[k + 1].1; grind, ?_⟩
      show y = (ks[k].2 * (ks[k + 1].1 - x) + ks[k + 1].2 * (x - ks[k].1)) / (ks[k + 1].1 - ks[k].1)
      have w : ks[k + 1].1 - ks[k].1 ≠ 0 := by grind
      have q : (ks[k].2 * (ks[k + 1].1 - x) + ks[k + 1].2 * (x - ks[k].1)) = y * (ks[k + 1].1 - ks[k].1) := by rw [ex, ey]; grind
      rw [q, Rat.mul_div_cancel w]
    have rv1 := hK.good.rng _ mk
    have rv2 := hK.good.rng _ mn
    have hy : loK ks ≤ y ∧ y ≤ hiK ks := by rw [ey]; constructor <;> grind
    have g := hK.good
    have gg := g
    rw [e1] at gg
    rw [← e1] at gg
    obtain ⟨g2, v2⟩ := (good_amid (l1 := ks.take k) (l2 := ks.drop (k + 2)) (f := ks[k]) (s := ks[k + 1]) (L := loK ks) (U := hiK ks) (by rw [← e1]; exact g) am hy)
    have bx : Bd 14 x ∧ Bd 14 y := by
      obtain ⟨m1, m2⟩ := mx_lt hmx
      obtain ⟨m3, m4⟩ := mx_lt m1
      obtain ⟨m5, m6⟩ := mx_lt m3
      have p4 : (10 : Int) ^ 4 = 10000 := by decide
      rw [p4] at m2 m4 m5 m6
      have p14 : (2 : Int) ^ 14 = 16384 := by decide
      refine ⟨⟨?_, ?_⟩, ⟨?_, ?_⟩⟩
      · have := abs_eq x.num; rw [this] at m5; omega
      · omega
      · have := abs_eq y.num; rw [this] at m4; omega
      · omega
    refine hnx _ _ ⟨_, _, _, _, _, by rw [e4]; rfl, ⟨?_, ?_⟩, ?_, by rw [g2.lo]; exact hlo, by rw [g2.hi]; exact hhi, fun t => by rw [v2 t, ← e1]; exact hv t, hs, hx3⟩
    · have q1 := g2.lo
      have q2 := g2.hi
      rw [q1, q2]
      exact g2
    · intro z hz
      rw [← e3] at hz
      rcases List.mem_append.mp hz with h | h
      · rcases List.mem_append.mp h with h | h
        · exact hK.bd z (List.mem_of_mem_take h)
        · simp at h; rw [h]; exact bx
      · exact hK.bd z (List.mem_of_mem_drop h)
    · rw [← e3]
      simp
      omega

/-! ### law_folded -/
def t_law_folded_b2 : DTS :=
  (sSet 1 (dMod (dPlus (dMul (dVar 1) (dC (.int 48271))) (dMod (dVar 2) (dC (.int 2147483629)))) (dC (.int 2147483647))))
def t_law_folded_s3 : DTS :=
  (sRet (dVar 1))
def t_law_folded_s1 : DTS :=
  (sSeq (sFor (iRow (dVar 0)) (gName' 2) t_law_folded_b2) t_law_folded_s3)
def t_law_folded : DTS :=
  (sSeq (sSet 1 (dB gLen (aCons (dVar 0) aNil))) t_law_folded_s1)
def sp_law_folded : DSp := fun ds m R _ => ∃ ns : List Int, ds = [.rl (ns.map D.int)] ∧ ns.length ≤ 63 ∧ ∀ v : Int, R (.int v) m
theorem len_law_folded : ∀ ds m R E, sp_law_folded ds m R E → ds.length = (["script"] : List Str).length := by
  rintro ds m R E ⟨a, rfl, _⟩; rfl
theorem rd_law_folded : ∀ ds m R E, sp_law_folded ds m R E → t_law_folded (dends R) (dstart 3 ds) m := by
  rintro ds m R E ⟨ns, rfl, hl, hR⟩
  show t_law_folded (dends R) [some (.rl (ns.map D.int)), none, none] m
  wide_line with (t_law_folded, t_law_folded_s1)
  refine for_ind D.int (fun _ r m' => ∃ (v : Int) (q2 : Option D), 0 ≤ v ∧ v < 2147483647 ∧ r = [some (.rl (ns.map D.int)), some (.int v), q2] ∧ m' = m) ?_ ?_ ns _ _ ⟨_, _, by omega, by simp; omega, rfl, rfl⟩
  · rintro r m' ⟨v, q2, _, _, rfl, rfl⟩
    refine ⟨trivial, ?_⟩
    wide_line with t_law_folded_s3
    exact fin_of (hR v)
  · rintro x xs nx hnx r m' ⟨v, q2, v0, v1, rfl, rfl⟩
    refine ⟨trivial, ?_⟩
    wide_line with t_law_folded_b2
    refine ⟨mul_l (by omega) (by omega), by decide, by decide, hnx _ _ ⟨_, _, Int.emod_nonneg _ (by decide), Int.emod_lt_of_pos _ (by decide), rfl, rfl⟩⟩

/-! ### frac -/
def t_frac_b3 : DTS :=
  (sPar 2 3 (dVar 3) (dMod (dVar 2) (dVar 3)))
def t_frac_s4 : DTS :=
  (sRet (dTup (aCons (dDiv (dVar 0) (dVar 2)) (aCons (dDiv (dVar 1) (dVar 2)) aNil))))
def t_frac_s2 : DTS :=
  (sSeq (sWhile (tBool (dGt (dVar 3) (dC (.int 0)))) t_frac_b3) t_frac_s4)
def t_frac_s1 : DTS :=
  (sSeq (sPar 2 3 (dB gAbs (aCons (dVar 0) aNil)) (dVar 1)) t_frac_s2)
def t_frac : DTS :=
  (sSeq (sIf (tBool (dLt (dVar 1) (dC (.int 0)))) (sPar 0 1 (dNeg (dVar 0)) (dNeg (dVar 1))) sNext) t_frac_s1)
abbrev sp_frac : DSp := spQuot
theorem len_frac : ∀ ds m R E, sp_frac ds m R E → ds.length = (["above", "below"] : List Str).length := len_spQuot
theorem rd_frac_s1 (a b : Int) (h0 : 0 < b) (hb : b.natAbs < 2 ^ 8999) (m : Mu) (R : DK) (hR : R (fr ((a : Rat) / (b : Rat))) m) :
    t_frac_s1 (dends R) [some (.int a), some (.int b), none, none] m := by
  wide_open with (t_frac_s1, t_frac_s2)
  rw [abs_eq]
  refine ⟨b.toNat + 1, gcd_while (fun x y => [some (.int a), some (.int b), some (.int x), some (.int y)]) m _ ?_ ?_ _ _ _ (by omega) (by omega) (by omega) ?_⟩
  · intro x y W hW
    wide_open
    exact hW
  · intro x y F hy hF
    wide_open with t_frac_b3
    exact ⟨hy, hF⟩
  · rw [gcd_abs]
    wide_open with t_frac_s4
    rw [fr_div h0] at hR
    exact ⟨divW (gcd_pos h0) (gcd_lt h0 hb) (by decide), divW (gcd_pos h0) (gcd_lt h0 hb) (by decide), fin_of hR⟩
theorem rd_frac : ∀ ds m R E, sp_frac ds m R E → t_frac (dends R) (dstart 4 ds) m := by
  rintro ds m R E ⟨a, b, rfl, h0, hb, hR⟩
  show t_frac (dends R) [some (.int a), some (.int b), none, none] m
  wide_open with t_frac
  split
  · refine rd_frac_s1 (-a) (-b) (by omega) (by rw [Int.natAbs_neg]; exact hb) m R ?_
    have e : ((-a : Int) : Rat) / ((-b : Int) : Rat) = (a : Rat) / (b : Rat) := by
      have hb0 : (b : Rat) ≠ 0 := by exact_mod_cast h0
      rw [Rat.intCast_neg, Rat.intCast_neg]
      grind
    rw [e]
    exact hR
  · exact rd_frac_s1 a b (by omega) hb m R hR

/-! ### frac_less -/
def t_frac_less : DTS :=
  (sRet (dCall sp_frac (aCons (dSub (dMul (dIx (dVar 0) (dC (.int 0))) (dIx (dVar 1) (dC (.int 1)))) (dMul (dIx (dVar 1) (dC (.int 0))) (dIx (dVar 0) (dC (.int 1))))) (aCons (dMul (dIx (dVar 0) (dC (.int 1))) (dIx (dVar 1) (dC (.int 1)))) aNil))))
abbrev sp_frac_less : DSp := spR2 fun p q => p - q
theorem len_frac_less : ∀ ds m R E, sp_frac_less ds m R E → ds.length = (["one", "other"] : List Str).length := len_spR2
theorem rd_frac_less : ∀ ds m R E, sp_frac_less ds m R E → t_frac_less (dends R) (dstart 2 ds) m := by
  rintro ds m R E ⟨p, q, rfl, hp, hq, hR⟩
  show t_frac_less (dends R) [some (fr p), some (fr q)] m
  wide_open with (t_frac_less, fr)
  have h0 := den_mul_pos p q
  refine ⟨mulW hp.1 hq.d (by decide), mulW hq.1 hp.d (by decide), mulW hp.d hq.d (by decide), _, _, rfl, by omega, nn_lt hp.d hq.d (by decide), ?_⟩
  rw [← sub_eq]
  exact fin_of hR

/-! ### frac_side -/
def t_frac_side_s1 : DTS :=
  (sRet (dSub (dB gInt (aCons (dGt (dVar 2) (dC (.int 0))) aNil)) (dB gInt (aCons (dLt (dVar 2) (dC (.int 0))) aNil))))
def t_frac_side : DTS :=
  (sSeq (sSet 2 (dSub (dMul (dIx (dVar 0) (dC (.int 0))) (dIx (dVar 1) (dC (.int 1)))) (dMul (dIx (dVar 1) (dC (.int 0))) (dIx (dVar 0) (dC (.int 1)))))) t_frac_side_s1)
abbrev sp_frac_side : DSp := spSide
theorem len_frac_side : ∀ ds m R E, sp_frac_side ds m R E → ds.length = (["one", "other"] : List Str).length := len_spSide
theorem rd_frac_side : ∀ ds m R E, sp_frac_side ds m R E → t_frac_side (dends R) (dstart 3 ds) m := by
  rintro ds m R E ⟨p, q, rfl, hp, hq, hR⟩
  show t_frac_side (dends R) [some (fr p), some (fr q), none] m
  wide_open with (t_frac_side, t_frac_side_s1, fr)
  refine ⟨mulW hp.1 hq.d (by decide), mulW hq.1 hp.d (by decide), ?_⟩
  rw [← sg_num]
  exact fin_of hR

/-! ### frac_over -/
def t_frac_over : DTS :=
  (sRet (dCall sp_frac (aCons (dMul (dIx (dVar 0) (dC (.int 0))) (dIx (dVar 1) (dC (.int 1)))) (aCons (dMul (dIx (dVar 0) (dC (.int 1))) (dIx (dVar 1) (dC (.int 0)))) aNil))))
abbrev sp_frac_over : DSp := spRD
theorem len_frac_over : ∀ ds m R E, sp_frac_over ds m R E → ds.length = (["one", "other"] : List Str).length := len_spRD
theorem rd_frac_over : ∀ ds m R E, sp_frac_over ds m R E → t_frac_over (dends R) (dstart 2 ds) m := by
  rintro ds m R E ⟨p, q, rfl, hp, hq, h0, hR⟩
  show t_frac_over (dends R) [some (fr p), some (fr q)] m
  wide_open with (t_frac_over, fr)
  refine ⟨mulW hp.1 hq.d (by decide), mulW hp.d hq.1 (by decide), _, _, rfl, ?_, nn_lt hp.d hq.1 (by decide), ?_⟩
  · intro e
    rcases Int.mul_eq_zero.mp e with e | e
    · have := den_pos p
      omega
    · exact num_ne h0 e
  · rw [← div_eq p q h0]
    exact fin_of hR

/-! ### frac_plus -/
def t_frac_plus : DTS :=
  (sRet (dCall sp_frac (aCons (dPlus (dMul (dIx (dVar 0) (dC (.int 0))) (dIx (dVar 1) (dC (.int 1)))) (dMul (dIx (dVar 1) (dC (.int 0))) (dIx (dVar 0) (dC (.int 1))))) (aCons (dMul (dIx (dVar 0) (dC (.int 1))) (dIx (dVar 1) (dC (.int 1)))) aNil))))
abbrev sp_frac_plus : DSp := spR2 fun p q => p + q
theorem len_frac_plus : ∀ ds m R E, sp_frac_plus ds m R E → ds.length = (["one", "other"] : List Str).length := len_spR2
theorem rd_frac_plus : ∀ ds m R E, sp_frac_plus ds m R E → t_frac_plus (dends R) (dstart 2 ds) m := by
  rintro ds m R E ⟨p, q, rfl, hp, hq, hR⟩
  show t_frac_plus (dends R) [some (fr p), some (fr q)] m
  wide_open with (t_frac_plus, fr)
  have h0 := den_mul_pos p q
  refine ⟨mulW hp.1 hq.d (by decide), mulW hq.1 hp.d (by decide), mulW hp.d hq.d (by decide), _, _, rfl, by omega, nn_lt hp.d hq.d (by decide), ?_⟩
  rw [← add_eq]
  exact fin_of hR

/-! ### frac_times -/
def t_frac_times : DTS :=
  (sRet (dCall sp_frac (aCons (dMul (dIx (dVar 0) (dC (.int 0))) (dIx (dVar 1) (dC (.int 0)))) (aCons (dMul (dIx (dVar 0) (dC (.int 1))) (dIx (dVar 1) (dC (.int 1)))) aNil))))
abbrev sp_frac_times : DSp := spR2 fun p q => p * q
theorem len_frac_times : ∀ ds m R E, sp_frac_times ds m R E → ds.length = (["one", "other"] : List Str).length := len_spR2
theorem rd_frac_times : ∀ ds m R E, sp_frac_times ds m R E → t_frac_times (dends R) (dstart 2 ds) m := by
  rintro ds m R E ⟨p, q, rfl, hp, hq, hR⟩
  show t_frac_times (dends R) [some (fr p), some (fr q)] m
  wide_open with (t_frac_times, fr)
  have h0 := den_mul_pos p q
  refine ⟨mulW hp.1 hq.1 (by decide), mulW hp.d hq.d (by decide), _, _, rfl, by omega, nn_lt hp.d hq.d (by decide), ?_⟩
  rw [← mul_eq]
  exact fin_of hR

/-! ### met_at -/
def t_met_at_s1 : DTS :=
  (sRet (dCall sp_frac_plus (aCons (dIx (dVar 0) (dC (.int 0))) (aCons (dCall sp_frac_times (aCons (dVar 3) (aCons (dCall sp_frac_less (aCons (dIx (dVar 1) (dC (.int 0))) (aCons (dIx (dVar 0) (dC (.int 0))) aNil))) aNil))) aNil))))
def t_met_at : DTS :=
  (sSeq (sSet 3 (dCall sp_frac_over (aCons (dCall sp_frac_less (aCons (dVar 2) (aCons (dIx (dVar 0) (dC (.int 1))) aNil))) (aCons (dCall sp_frac_less (aCons (dIx (dVar 1) (dC (.int 1))) (aCons (dIx (dVar 0) (dC (.int 1))) aNil))) aNil)))) t_met_at_s1)
abbrev sp_met_at : DSp := spMetW
theorem len_met_at : ∀ ds m R E, sp_met_at ds m R E → ds.length = (["begin", "end", "level"] : List Str).length := len_spMetW
theorem rd_met_at : ∀ ds m R E, sp_met_at ds m R E → t_met_at (dends R) (dstart 4 ds) m := by
  rintro ds m R E ⟨b, e, lv, rfl, b1, b2, e1, e2, hl, s1, hne, s5, hR⟩
  show t_met_at (dends R) [some (knD b), some (knD e), some (fr lv), none] m
  have h0 : e.2 - b.2 ≠ 0 := by grind
  have s2 : Bd 2603 (e.2 - b.2) := e2.sub b2
  have s3 : Bd 1301 (e.1 - b.1) := e1.sub b1
  have s4 : Bd 3919 ((lv - b.2) / (e.2 - b.2)) := s1.div s2 h0
  have s5 : Bd 4000 ((lv - b.2) / (e.2 - b.2) * (e.1 - b.1)) := by
    have e : (lv - b.2) / (e.2 - b.2) * (e.1 - b.1) = metK b e lv - b.1 := by unfold metK; grind
    rw [e]
    exact s5
  wide_line with t_met_at
  refine ⟨_, _, rfl, hl.mono (by decide), b2.mono (by decide), ?_⟩
  try wide_line
  refine ⟨_, _, rfl, e2.mono (by decide), b2.mono (by decide), ?_⟩
  try wide_line
  refine ⟨_, _, rfl, s1.mono (by decide), s2.mono (by decide), h0, ?_⟩
  wide_line with t_met_at_s1
  refine ⟨_, _, rfl, e1.mono (by decide), b1.mono (by decide), ?_⟩
  try wide_line
  refine ⟨_, _, rfl, s4.mono (by decide), s3.mono (by decide), ?_⟩
  try wide_line
  refine ⟨_, _, rfl, b1.mono (by decide), s5.mono (by decide), ?_⟩
  exact fin_of hR

/-! ### neighbours -/
def t_neighbours : DTS :=
  (sRet (dNew (nZip (dVar 0) (dCut (dVar 0) (oSome (dC (.int 1))) oNone))))
def pairD (p : Kn × Kn) : D := .tup [knD p.1, knD p.2]
def sp_neighbours : DSp := fun ds m R _ => ∃ (ks : List Kn) (d : D), ds = [d] ∧ (d = mapD ks ∨ ∃ a, d = .ref a ∧ m a = some (.lst (ks.map knD))) ∧ 1 ≤ ks.length ∧ ks.length ≤ 1000 ∧ ∀ c, m c = none → R (.ref c) (mput m c (.lst ((pairs ks).map pairD)))
theorem len_neighbours : ∀ ds m R E, sp_neighbours ds m R E → ds.length = (["knots"] : List Str).length := by
  rintro ds m R E ⟨a, b, rfl, _⟩; rfl
theorem rd_neighbours : ∀ ds m R E, sp_neighbours ds m R E → t_neighbours (dends R) (dstart 1 ds) m := by
  rintro ds m R E ⟨ks, d, rfl, hd, h1, hl, hR⟩
  show t_neighbours (dends R) [some d] m
  have hcut : cutD (ks.map knD) (some 1) none = (ks.drop 1).map knD := cutD_drop (k := 1) (by decide) h1
  have ez : zipItems (ks.map knD) ((ks.drop 1).map knD) = (pairs ks).map pairD := zip_pairs knD ks
  rcases hd with rfl | ⟨a, rfl, hm⟩
  · wide_open with (t_neighbours, mapD)
    rw [hcut, ez]
    intro c hc
    exact fin_of (hR c hc)
  · wide_open with (t_neighbours, hm)
    intro b hb
    have ab : a ≠ b := ne_of hm hb
    simp only [mput_ne ab, hm, mput_same, ↓bK_bl, ↓lstK_lst, ↓intK_int, ↓optK_some, ↓tBool_, ↓dAndV_, ↓gI_, ↓gI0_, ↓gAdd_int, ↓gAdd_tup, ↓gAdd_ref, ↓gNeg_, ↓gIx_tup, ↓gIx_ref, ↓atK_0, ↓atK_1, ↓atK_2, ↓atK_3, ↓atK_last, ↓setK_0, ↓setK_2, ↓gLen_tup, ↓gLen_rl, ↓gLen_ref, ↓gTupleOf_ref, ↓seqK_tup, ↓seqK_ref, ↓nListOf_, ↓isLst_ref, ↓gAppend_, ↓refK_ref, ↓dExtN_, ↓gExt_, ↓gSetIx_, ↓itK_some, ↓iRow_, ↓rowIt_tup, ↓rowIt_rl, ↓iRng1_, ↓iRng2_, ↓iZip_, ↓gNil_, ↓gCons_, ↓gTup_, ↓gAbs_, ↓gMax2_, ↓gInt_bl, ↓gLe_int, ↓gEq_int, ↓gNe_int, ↓oNone_, ↓oSome_, ↓gStep_tup, ↓gCut_tup, ↓gCut_ref, ↓rowK_ref, ↓nCut_, ↓nRev_, ↓nCatEN_, ↓nRep_, ↓dIxN_, ↓sAug_, ↓gIn_, ↓gEqNN_, ↓gMax4_, ↓nZip_, ↓zK_tup, ↓zK_ref, ↓dVar_0, ↓dVar_1, ↓dVar_2, ↓dVar_3, ↓dVar_4, ↓dVar_5, ↓dVar_6, ↓dVar_7, ↓dVar_8, ↓dVar_9, ↓dVar_10, ↓dVar_11, ↓sz_0, ↓sz_1, ↓sz_2, ↓sz_3, ↓sz_4, ↓sz_5, ↓sz_6, ↓u_sSeq, ↓u_sNext, ↓u_sSet, ↓u_sSetN, ↓u_sAsg, ↓u_sIf, ↓u_sRet, ↓u_sDrop, ↓u_sPar, ↓u_sFor, ↓u_dC, ↓u_d2, ↓u_d1, ↓u_dTup, ↓u_dNew, ↓u_aNil, ↓u_aCons, ↓u_nLst, ↓u_tAnd', ↓u_tOr', ↓u_tNot', ↓u_gName', ↓u_dCall, ↓u_dB, ↓u_dTupN, ↓u_dM, ↓u_iNew, ↓u_nLc, ↓u_dCut, ↓u_nCutN, ↓u_nCatNN, ↓u_d2N, ↓u_dNN, ↓u_tYes', ↓u_dStep, ↓u_nSgn, List.set_cons_zero, List.set_cons_succ, dwipe, ite_true, ite_false, Bool.false_eq_true, Bool.true_eq_false, Bool.not_true, Bool.not_false, beq_self_eq_true, decide_eq_true_eq, Bool.not_eq_true', decide_eq_false_iff_not, mput_same, mput_put, dends, List.length_cons, List.length_nil, true_and, and_true, Nat.reduceAdd, Nat.reduceEqDiff, Int.reduceToNat]
    rw [hcut, ez]
    intro c hc
    exact fin_newA (Sub.new hb) hc (hR c)

/-! ### put_to -/
def t_put_to : DTS :=
  (sIf (tAnd' (tBool (d2N (gEqN true) (dVar 0) (nLst aNil))) (tBool (dGe (dCall sp_frac_side (aCons (dIx (dIx (dVar 0) (dNeg (dC (.int 1)))) (dC (.int 1))) (aCons (dIx (dVar 1) (dC (.int 0))) aNil))) (dC (.int 0))))) (sAsg (dTup (aCons (dIx (dIx (dVar 0) (dNeg (dC (.int 1)))) (dC (.int 0))) (aCons (dIx (dVar 1) (dC (.int 1))) aNil))) (gSetIx (dVar 0) (dNeg (dC (.int 1))))) (sDrop (dM gAppend (dVar 0) (aCons (dVar 1) aNil))))
def sp_put_to : DSp := fun ds m R _ => ∃ (a : Addr) (ps : List Kn) (p : Kn), ds = [.ref a, knD p] ∧ m a = some (.lst (ps.map knD)) ∧ ps.length ≤ 1000 ∧ BdK 4000 ps ∧ Bd 4000 p.1 ∧ R .non (mput m a (.lst ((putK ps p).map knD)))
theorem len_put_to : ∀ ds m R E, sp_put_to ds m R E → ds.length = (["pairs", "pair"] : List Str).length := by
  rintro ds m R E ⟨a, b, c, rfl, _⟩; rfl
theorem rd_put_to : ∀ ds m R E, sp_put_to ds m R E → t_put_to (dends R) (dstart 2 ds) m := by
  rintro ds m R E ⟨a, ps, p, rfl, hm, hl, hb, hp, hR⟩
  show t_put_to (dends R) [some (.ref a), some (knD p)] m
  have hsl := sizeLine_eq
  wide_line with (t_put_to, hm)
  refine neNil_any enc_kn.py hm ?_
  rcases List.eq_nil_or_concat ps with rfl | ⟨qs, l, e⟩
  · wide_line with (decide_true, Bool.xor_true, Bool.not_true, hm)
    rw [putK_nil] at hR
    refine ⟨⟨_, rfl⟩, by simp; omega, fin_of hR⟩
  · have e' : ps = qs ++ [l] := by simpa using e
    subst e'
    rw [decide_eq_false (by simp)]
    have gL : ((qs ++ [l]).map knD).getLast? = some (knD l) := by simp
    wide_line with (Bool.xor_false, hm)
    refine at_last gL ?_
    try wide_line
    refine ⟨_, _, rfl, (hb l (by simp)).2, hp, ?_⟩
    try wide_line
    rw [putK_snoc] at hR
    by_cases c : p.1 ≤ l.2
    · rw [if_pos c] at hR
      have : 0 ≤ sgQ l.2 p.1 := by
        have := mt sg_neg.mp (show ¬ l.2 < p.1 by grind)
        omega
      rw [if_pos this]
      wide_line with hm
      refine at_last gL ?_
      wide_line with hm
      rw [List.map_append]
      refine setK_last ?_
      rw [List.map_append] at hR
      exact fin_of hR
    · rw [if_neg c] at hR
      have : ¬ 0 ≤ sgQ l.2 p.1 := by
        have := sg_neg.mpr (show l.2 < p.1 by grind)
        omega
      rw [if_neg this]
      wide_line with hm
      refine ⟨⟨_, rfl⟩, by rw [List.length_map]; omega, ?_⟩
      rw [List.map_append] at hR
      exact fin_of hR

/-! ### noughts_of -/
def t_noughts_of_s4 : DTS :=
  (sDrop (dCall sp_put_to (aCons (dVar 1) (aCons (dTup (aCons (dVar 5) (aCons (dVar 5) aNil))) aNil))))
def t_noughts_of_s3 : DTS :=
  (sIf (tBool (dEq (dVar 4) (dTup (aCons (dC (.int 0)) (aCons (dC (.int 0)) aNil))))) (sDrop (dCall sp_put_to (aCons (dVar 1) (aCons (dTup (aCons (dIx (dVar 2) (dC (.int 0))) (aCons (dIx (dVar 3) (dC (.int 0))) aNil))) aNil)))) (sIf (tBool (dLeA (dMul (dIx (dVar 4) (dC (.int 0))) (dIx (dVar 4) (dC (.int 1)))) (dC (.int 0)))) (sSeq (sSet 5 (dCall sp_met_at (aCons (dVar 2) (aCons (dVar 3) (aCons (dC (.tup [.int 0, .int 1])) aNil))))) t_noughts_of_s4) sNext))
def t_noughts_of_b2 : DTS :=
  (sSeq (sSet 4 (dTup (aCons (dCall sp_frac_side (aCons (dIx (dVar 2) (dC (.int 1))) (aCons (dC (.tup [.int 0, .int 1])) aNil))) (aCons (dCall sp_frac_side (aCons (dIx (dVar 3) (dC (.int 1))) (aCons (dC (.tup [.int 0, .int 1])) aNil))) aNil)))) t_noughts_of_s3)
def t_noughts_of_s5 : DTS :=
  (sRet (dB gTupleOf (aCons (dVar 1) aNil)))
def t_noughts_of_s1 : DTS :=
  (sSeq (sFor (iRow (dCall sp_neighbours (aCons (dVar 0) aNil))) (gTup' 2 (gCons' (gName' 2) (gCons' (gName' 3) gNil'))) t_noughts_of_b2) t_noughts_of_s5)
def t_noughts_of : DTS :=
  (sSeq (sSetN 1 (nLst aNil)) t_noughts_of_s1)
def sp_noughts_of : DSp := fun ds m R _ => ∃ (a : Addr) (rows : List Kn), ds = [.ref a] ∧ m a = some (.lst (rows.map knD)) ∧ 1 ≤ rows.length ∧ rows.length ≤ 1000 ∧ NtB rows ∧ R (mapD (noughtsK rows)) m
theorem len_noughts_of : ∀ ds m R E, sp_noughts_of ds m R E → ds.length = (["rows"] : List Str).length := by
  rintro ds m R E ⟨a, b, rfl, _⟩; rfl
theorem rd_noughts_of : ∀ ds m R E, sp_noughts_of ds m R E → t_noughts_of (dends R) (dstart 6 ds) m := by
  rintro ds m R E ⟨a, rows, rfl, hm, h1, hl, hb, hR⟩
  show t_noughts_of (dends R) [some (.ref a), none, none, none, none, none] m
  have hsl := sizeLine_eq
  wide_line with t_noughts_of
  intro f hf
  have af : a ≠ f := ne_of hm hf
  have hma : ∀ o, mput m f o a = some (.lst (rows.map knD)) := fun o => by rw [mput_ne af]; exact hm
  wide_line with t_noughts_of_s1
  refine ⟨rows, _, rfl, .inr ⟨a, rfl, hma _⟩, h1, hl, fun g hg => ?_⟩
  have fg : f ≠ g := ne_of mput_same hg
  have mg : m g = none := by rw [mput_ne (Ne.symm fg)] at hg; exact hg
  try wide_line
  rw [rowIt_lst mput_same, itK_some]
  have hpl : (pairs rows).length ≤ rows.length := by
    have : ∀ l : List Kn, (pairs l).length ≤ l.length := by
      intro l
      induction l with
      | nil => simp [pairs]
      | cons a l ih =>
        cases l with
        | nil => simp [pairs]
        | cons b l => rw [pairs_cons, List.length_cons, List.length_cons]; omega
    exact this rows
  have hfl : ∀ l : List (Kn × Kn), (l.flatMap fun p => pcK p.1 p.2).length ≤ l.length := by
    intro l
    induction l with
    | nil => simp
    | cons p l ih =>
      rw [List.flatMap_cons, List.length_append, List.length_cons]
      have := pcK_len p.1 p.2
      omega
  have hsub : ∀ {m M : Mu} {a : Addr} {o : O}, Sub m M → m a = none → Sub m (mput M a o) := fun {m M a o} s h b u hb => by
    rw [mput_ne (fun e => by rw [e, h] at hb; cases hb)]
    exact s b u hb
  refine for_ind pairD (fun xs r M => ∃ (dn : List (Kn × Kn)) (q2 q3 q4 q5 : Option D), pairs rows = dn ++ xs ∧ r = [some (.ref a), some (.ref f), q2, q3, q4, q5] ∧ M g = some (.lst ((pairs rows).map pairD)) ∧ M f = some (.lst ((joinK (dn.flatMap fun p => pcK p.1 p.2)).map knD)) ∧ Sub m M) ?_ ?_ _ _ _ ⟨[], _, _, _, _, rfl, rfl, mput_same, by rw [mput_ne fg, mput_same]; rfl, hsub (Sub.new hf) mg⟩
  · rintro r M ⟨dn, q2, q3, q4, q5, e, rfl, hG, hF, hS⟩
    refine ⟨hG, ?_⟩
    rw [List.append_nil] at e
    rw [← e, ← pcs_flat] at hF
    wide_line with (t_noughts_of_s5, hF)
    exact ⟨m, hS, hR⟩
  · rintro p xs nx hnx r M ⟨dn, q2, q3, q4, q5, e, rfl, hG, hF, hS⟩
    refine ⟨hG, ?_⟩
    have hp : p ∈ pairs rows := by rw [e]; simp
    have m1 := hb.kn p.1 (pairs_mem hp).1
    have m2 := hb.kn p.2 (pairs_mem hp).2
    have hdl : dn.length < (pairs rows).length := by rw [e]; simp
    have hal := hfl dn
    have hjl : (joinK (dn.flatMap fun p => pcK p.1 p.2)).length ≤ dn.length := by
      have := fold_len (dn.flatMap fun p => pcK p.1 p.2) []
      unfold joinK
      rw [List.length_nil, Nat.zero_add] at this
      omega
    have hjb : BdK 4000 (joinK (dn.flatMap fun p => pcK p.1 p.2)) :=
      (fold_bd _ (fun k hk => by simp at hk) (hb.pcs fun q hq => by rw [e]; exact List.mem_append_left _ hq)).mono (by decide)
    show gTup' 2 _ (D.tup [knD p.1, knD p.2]) _ _ _
    wide_line with t_noughts_of_b2
    rw [fr_zero]
    refine ⟨_, _, rfl, m1.2.mono (by decide), ⟨by decide, by decide⟩, ?_⟩
    try wide_line
    refine ⟨_, _, rfl, m2.2.mono (by decide), ⟨by decide, by decide⟩, ?_⟩
    wide_line with t_noughts_of_s3
    have go : ∀ (ps : List Kn) (q2 q3 q4 q5 : Option D), pcK p.1 p.2 = ps → nx [some (.ref a), some (.ref f), q2, q3, q4, q5] (mput M f (.lst ((ps.foldl putK (joinK (dn.flatMap fun p => pcK p.1 p.2))).map knD))) := by
      intro ps q2 q3 q4 q5 ep
      refine hnx _ _ ⟨dn ++ [p], q2, q3, q4, q5, by rw [e]; simp, rfl, by rw [mput_ne (Ne.symm fg)]; exact hG, ?_, hsub hS hf⟩
      rw [mput_same, List.flatMap_append, ← ep]
      unfold joinK
      rw [List.foldl_append]
      simp
    have same : mput M f (.lst ((joinK (dn.flatMap fun p => pcK p.1 p.2)).map knD)) = M := by
      funext b
      by_cases hbf : b = f
      · rw [hbf, mput_same, hF]
      · rw [mput_ne hbf]
    refine enc_ints.gEq (x := [sgQ p.1.2 0, sgQ p.2.2 0]) (y := [0, 0]) ?_
    by_cases c : p.1.2 = 0 ∧ p.2.2 = 0
    · rw [decide_eq_true (by rw [sg_zero.mpr c.1, sg_zero.mpr c.2])]
      try wide_line
      have ep : pcK p.1 p.2 = [(p.1.1, p.2.1)] := pcK_zero c.1 c.2
      exact ⟨f, _, (p.1.1, p.2.1), rfl, hF, by omega, hjb, m1.1.mono (by decide), go _ _ _ _ _ ep⟩
    · rw [decide_eq_false (by
        intro h
        simp only [List.cons.injEq, and_true] at h
        exact c ⟨sg_zero.mp h.1, sg_zero.mp h.2⟩)]
      try wide_line
      have b1 := @sg_bool p.1.2 0
      refine ⟨mul_l (by omega) (by omega), ?_⟩
      by_cases d : sgQ p.1.2 0 * sgQ p.2.2 0 ≤ 0
      · rw [if_pos d, fr_zero]
        have ep : pcK p.1 p.2 = [(metK p.1 p.2 0, metK p.1 p.2 0)] := by unfold pcK; rw [if_neg c, if_pos d]
        obtain ⟨z1, z2, z3, bm⟩ := hb.m0 hp (pcK_ne c d) d
        refine ⟨_, _, _, rfl, m1.1, m1.2, m2.1, m2.2, z1, z2, pcK_ne c d, z3, ?_⟩
        wide_line with t_noughts_of_s4
        exact ⟨f, _, (metK p.1 p.2 0, metK p.1 p.2 0), rfl, hF, by omega, hjb, bm, go _ _ _ _ _ ep⟩
      · rw [if_neg d]
        have ep : pcK p.1 p.2 = [] := by unfold pcK; rw [if_neg c, if_neg d]
        have := go [] (some (knD p.1)) (some (knD p.2)) (some (.tup [.int (sgQ p.1.2 0), .int (sgQ p.2.2 0)])) q5 ep
        rw [List.foldl_nil, same] at this
        exact this

/-! ### stays_of -/
def t_stays_of : DTS :=
  (sRet (dCall sp_noughts_of (aCons (dNew (nLc (iRow (dVar 0)) (gTup' 2 (gCons' (gName' 1) (gCons' (gName' 2) gNil'))) tYes' (dTup (aCons (dVar 1) (aCons (dCall sp_frac_less (aCons (dVar 2) (aCons (dVar 1) aNil))) aNil))) [1, 2])) aNil)))
def sp_stays_of : DSp := fun ds m R _ => ∃ (ks : List Kn) (d : D), ds = [d] ∧ (d = mapD ks ∨ ∃ a, d = .ref a ∧ m a = some (.lst (ks.map knD))) ∧ 1 ≤ ks.length ∧ ks.length ≤ 1000 ∧ BdK 650 ks ∧ NtB (stayR ks) ∧ R (mapD (noughtsK (stayR ks))) m
theorem len_stays_of : ∀ ds m R E, sp_stays_of ds m R E → ds.length = (["knots"] : List Str).length := by
  rintro ds m R E ⟨a, b, rfl, _⟩; rfl
theorem rd_stays_of : ∀ ds m R E, sp_stays_of ds m R E → t_stays_of (dends R) (dstart 3 ds) m := by
  rintro ds m R E ⟨ks, d, rfl, hd, h1, hl, hb, hn, hR⟩
  show t_stays_of (dends R) [some d, none, none] m
  have hsl := sizeLine_eq
  have e0 : rowIt m d = some ⟨ks.map knD, fun M => (d = mapD ks ∨ ∃ a, d = .ref a ∧ M a = some (.lst (ks.map knD)))⟩ ∨ True := .inr trivial
  have key : ∀ (G : Mu → Prop), G m → lcL G (gTup' 2 (gCons' (gName' 1) (gCons' (gName' 2) gNil'))) tYes' (dTup (aCons (dVar 1) (aCons (dCall sp_frac_less (aCons (dVar 2) (aCons (dVar 1) aNil))) aNil))) [some d, none, none] (ks.map knD) [] m fun xs m1 => ∀ a, m1 a = none → sp_noughts_of [.ref a] (mput m1 a (.lst xs)) (fin R) X0 := by
    intro G hG
    refine lc_map knD (fun _ => true) (fun k => knD (k.1, k.2 - k.1)) hG _ _ (by simp; omega) ?_ ?_
    · intro k hk acc W hacc hW
      try wide_line
      refine ⟨_, _, rfl, (hb k hk).2.mono (by decide), (hb k hk).1.mono (by decide), ?_⟩
      exact ⟨hacc, hW⟩
    rw [filter_yes, List.nil_append]
    intro a ha
    refine ⟨a, stayR ks, rfl, by rw [mput_same]; unfold stayR; rw [List.map_map]; rfl, by unfold stayR; simpa using h1, by unfold stayR; simpa using hl, hn, ?_⟩
    exact fin_new ha hR
  rcases hd with rfl | ⟨a, rfl, hm⟩
  · wide_line with t_stays_of
    exact key _ trivial
  · simp only [t_stays_of, rowIt_lst hm, ↓bK_bl, ↓lstK_lst, ↓intK_int, ↓optK_some, ↓tBool_, ↓dAndV_, ↓gI_, ↓gI0_, ↓gAdd_int, ↓gAdd_tup, ↓gAdd_ref, ↓gNeg_, ↓gIx_tup, ↓gIx_ref, ↓atK_0, ↓atK_1, ↓atK_2, ↓atK_3, ↓atK_last, ↓setK_0, ↓setK_2, ↓gLen_tup, ↓gLen_rl, ↓gLen_ref, ↓gTupleOf_ref, ↓seqK_tup, ↓seqK_ref, ↓nListOf_, ↓isLst_ref, ↓gAppend_, ↓refK_ref, ↓dExtN_, ↓gExt_, ↓gSetIx_, ↓itK_some, ↓iRow_, ↓rowIt_tup, ↓rowIt_rl, ↓iRng1_, ↓iRng2_, ↓iZip_, ↓gNil_, ↓gCons_, ↓gTup_, ↓gAbs_, ↓gMax2_, ↓gInt_bl, ↓gLe_int, ↓gEq_int, ↓gNe_int, ↓oNone_, ↓oSome_, ↓gStep_tup, ↓gCut_tup, ↓gCut_ref, ↓rowK_ref, ↓nCut_, ↓nRev_, ↓nCatEN_, ↓nRep_, ↓dIxN_, ↓sAug_, ↓gMax4_, ↓nZip_, ↓zK_tup, ↓zK_ref, ↓dVar_0, ↓dVar_1, ↓dVar_2, ↓dVar_3, ↓dVar_4, ↓dVar_5, ↓dVar_6, ↓dVar_7, ↓dVar_8, ↓dVar_9, ↓dVar_10, ↓dVar_11, ↓sz_0, ↓sz_1, ↓sz_2, ↓sz_3, ↓sz_4, ↓sz_5, ↓sz_6, ↓u_sSeq, ↓u_sNext, ↓u_sSet, ↓u_sSetN, ↓u_sAsg, ↓u_sIf, ↓u_sRet, ↓u_sDrop, ↓u_sPar, ↓u_sFor, ↓u_dC, ↓u_d2, ↓u_d1, ↓u_dTup, ↓u_dNew, ↓u_aNil, ↓u_aCons, ↓u_nLst, ↓u_tAnd', ↓u_tOr', ↓u_tNot', ↓u_gName', ↓u_dCall, ↓u_dB, ↓u_dTupN, ↓u_dM, ↓u_iNew, ↓u_nLc, ↓u_dCut, ↓u_nCutN, ↓u_nCatNN, ↓u_d2N, ↓u_dNN, ↓u_tYes', ↓u_dStep, ↓u_nSgn, List.set_cons_zero, List.set_cons_succ, dwipe, ite_true, ite_false, Bool.false_eq_true, Bool.true_eq_false, Bool.not_true, Bool.not_false, beq_self_eq_true, decide_eq_true_eq, Bool.not_eq_true', decide_eq_false_iff_not, mput_same, mput_put, dends, List.length_cons, List.length_nil, true_and, and_true, Nat.reduceAdd, Nat.reduceEqDiff, Int.reduceToNat, ↓x_fr0, ↓x_fr1, ↓x_kn0, ↓x_kn1, ↓x_map, ↓x_at0, ↓x_len, ↓x_row, ↓x_cut, ↓x_tup2]
    exact key _ hm

/-! ### is_amid -/
def t_is_amid : DTS :=
  (sRet (dEq (dMul (dCall sp_frac_side (aCons (dVar 1) (aCons (dVar 0) aNil))) (dCall sp_frac_side (aCons (dVar 0) (aCons (dVar 2) aNil)))) (dC (.int 1))))
def sp_is_amid : DSp := fun ds m R _ => ∃ (x : Rat) (p q : Rat), ds = [fr x, fr p, fr q] ∧ Bd 4000 x ∧ Bd 4000 p ∧ Bd 4000 q ∧ R (.bl (decide ((p < x ∧ x < q) ∨ (q < x ∧ x < p)))) m
theorem len_is_amid : ∀ ds m R E, sp_is_amid ds m R E → ds.length = (["point", "one", "other"] : List Str).length := by
  rintro ds m R E ⟨a, b, c, rfl, _⟩; rfl
theorem rd_is_amid : ∀ ds m R E, sp_is_amid ds m R E → t_is_amid (dends R) (dstart 3 ds) m := by
  rintro ds m R E ⟨x, p, q, rfl, hx, hp, hq, hR⟩
  show t_is_amid (dends R) [some (fr x), some (fr p), some (fr q)] m
  wide_open with t_is_amid
  refine ⟨_, _, rfl, hp, hx, ?_⟩
  try wide_open
  refine ⟨_, _, rfl, hx, hq, ?_⟩
  try wide_open
  have s1 := sg_cases p x
  have s2 := sg_cases x q
  refine ⟨mul_l (by omega) (by omega), ?_⟩
  have e : decide (sgQ p x * sgQ x q = 1) = decide ((p < x ∧ x < q) ∨ (q < x ∧ x < p)) := by
    rw [decide_eq_decide]
    rcases s1 with ⟨e1, c1⟩ | ⟨e1, c1⟩ | ⟨e1, c1⟩ <;> rcases s2 with ⟨e2, c2⟩ | ⟨e2, c2⟩ | ⟨e2, c2⟩ <;> rw [e1, e2] <;> grind
  rw [e]
  exact fin_of hR

/-! ### slope_between -/
def t_slope_between : DTS :=
  (sRet (dCall sp_frac_over (aCons (dCall sp_frac_less (aCons (dIx (dVar 1) (dC (.int 1))) (aCons (dIx (dVar 0) (dC (.int 1))) aNil))) (aCons (dCall sp_frac_less (aCons (dIx (dVar 1) (dC (.int 0))) (aCons (dIx (dVar 0) (dC (.int 0))) aNil))) aNil))))
def sp_slope_between : DSp := fun ds m R _ => ∃ a b : Kn, ds = [knD a, knD b] ∧ BdK 1500 [a, b] ∧ a.1 < b.1 ∧ R (fr (slp a b)) m
theorem len_slope_between : ∀ ds m R E, sp_slope_between ds m R E → ds.length = (["one", "other"] : List Str).length := by
  rintro ds m R E ⟨a, b, rfl, _⟩; rfl
theorem rd_slope_between : ∀ ds m R E, sp_slope_between ds m R E → t_slope_between (dends R) (dstart 2 ds) m := by
  rintro ds m R E ⟨a, b, rfl, hb, h, hR⟩
  have ha := hb.head
  have hb := hb.tail.head
  show t_slope_between (dends R) [some (knD a), some (knD b)] m
  wide_open with (t_slope_between, knD)
  refine ⟨_, _, rfl, hb.2.mono (by decide), ha.2.mono (by decide), ?_⟩
  refine ⟨_, _, rfl, hb.1.mono (by decide), ha.1.mono (by decide), ?_⟩
  exact ⟨_, _, rfl, hb.2.sub ha.2, hb.1.sub ha.1, by grind, fin_of hR⟩

/-! ### knots_amid -/
def t_knots_amid_s3 : DTS :=
  (sDrop (dM gAppend (dVar 3) (aCons (dTup (aCons (dCall sp_frac_plus (aCons (dIx (dVar 0) (dC (.int 0))) (aCons (dVar 6) aNil))) (aCons (dVar 5) aNil))) aNil)))
def t_knots_amid_b2 : DTS :=
  (sIf (tBool (dCall sp_is_amid (aCons (dVar 4) (aCons (dIx (dVar 0) (dC (.int 1))) (aCons (dIx (dVar 1) (dC (.int 1))) aNil))))) (sSeq (sSet 6 (dCall sp_frac_over (aCons (dCall sp_frac_less (aCons (dVar 4) (aCons (dIx (dVar 0) (dC (.int 1))) aNil))) (aCons (dCall sp_slope_between (aCons (dVar 0) (aCons (dVar 1) aNil))) aNil)))) t_knots_amid_s3) sNext)
def t_knots_amid_s5 : DTS :=
  (sRet (dVar 3))
def t_knots_amid_s4 : DTS :=
  (sSeq (sIf (tBool (dGt (dCall sp_frac_side (aCons (dIx (dVar 0) (dC (.int 1))) (aCons (dIx (dVar 1) (dC (.int 1))) aNil))) (dC (.int 0)))) (sRet (dNew (nRev (dVar 3)))) sNext) t_knots_amid_s5)
def t_knots_amid_s1 : DTS :=
  (sSeq (sFor (iRow (dVar 2)) (gTup' 2 (gCons' (gName' 4) (gCons' (gName' 5) gNil'))) t_knots_amid_b2) t_knots_amid_s4)
def t_knots_amid : DTS :=
  (sSeq (sSetN 3 (nLst aNil)) t_knots_amid_s1)
def sp_knots_amid : DSp := fun ds m R _ => ∃ (a b : Kn) (o : List Kn), ds = [knD a, knD b, mapD o] ∧ a.1 < b.1 ∧ SzP [a, b] o ∧ o.length ≤ 100000 ∧ ∀ f, m f = none → R (.ref f) (mput m f (.lst ((amidK a b o).map knD)))
theorem len_knots_amid : ∀ ds m R E, sp_knots_amid ds m R E → ds.length = (["ahead", "behind", "other"] : List Str).length := by
  rintro ds m R E ⟨a, b, c, rfl, _⟩; rfl
theorem amidF_snoc {a b k : Kn} {o : List Kn} : amidF a b (o ++ [k]) = amidF a b o ++ if Amids a b k.1 then [(inv a b k.1, k.2)] else [] := by
  unfold amidF
  rw [List.filter_append, List.map_append]
  congr 1
  by_cases c : Amids a b k.1
  · rw [if_pos c, List.filter_cons_of_pos (by simpa using c)]
    rfl
  · rw [if_neg c, List.filter_cons_of_neg (by simpa using c)]
    rfl
theorem rd_knots_amid : ∀ ds m R E, sp_knots_amid ds m R E → t_knots_amid (dends R) (dstart 7 ds) m := by
  rintro ds m R E ⟨a, b, o, rfl, hlt, ⟨N, K, hab, ho, hN, hK, hNK⟩, hl, hR⟩
  show t_knots_amid (dends R) [some (knD a), some (knD b), some (mapD o), none, none, none, none] m
  have ba := hab.head
  have bb := hab.tail.head
  wide_line with (t_knots_amid, t_knots_amid_s1)
  intro f hf
  refine for_ind knD (fun xs r m' => ∃ (don : List Kn) (q4 q5 q6 : Option D), o = don ++ xs ∧ r = [some (knD a), some (knD b), some (mapD o), some (.ref f), q4, q5, q6] ∧ m' = mput m f (.lst ((amidF a b don).map knD))) ?_ ?_ o _ _ ⟨[], _, _, _, rfl, rfl, rfl⟩
  · rintro r m' ⟨don, q4, q5, q6, e, rfl, rfl⟩
    refine ⟨trivial, ?_⟩
    rw [List.append_nil] at e
    subst e
    wide_line with t_knots_amid_s4
    refine ⟨_, _, rfl, ba.2.mono (by omega), bb.2.mono (by omega), ?_⟩
    try wide_line
    have hR' := hR
    unfold amidK at hR'
    split
    · rename_i c
      rw [sg_pos] at c
      simp only [if_pos c] at hR'
      intro g hg
      rw [← List.map_reverse]
      exact fin_two hf (hR' g (mput_none hg).2)
    · rename_i c
      rw [sg_pos] at c
      simp only [if_neg c] at hR'
      wide_line with t_knots_amid_s5
      exact fin_of (hR' f hf)
  · rintro k xs nx hnx r m' ⟨don, q4, q5, q6, e, rfl, rfl⟩
    refine ⟨trivial, ?_⟩
    have mk : k ∈ o := by rw [e]; simp
    have bk := ho k mk
    have hdon : don.length ≤ 100000 := by
      have := congrArg List.length e
      simp at this
      omega
    wide_line with t_knots_amid_b2
    refine ⟨_, _, _, rfl, bk.1.mono (by omega), ba.2.mono (by omega), bb.2.mono (by omega), ?_⟩
    try wide_line
    have done : ∀ q6, nx [some (knD a), some (knD b), some (mapD o), some (.ref f), some (fr k.1), some (fr k.2), q6] (mput m f (.lst ((amidF a b (don ++ [k])).map knD))) := fun q6 => hnx _ _ ⟨don ++ [k], _, _, _, by simp [e], rfl, rfl⟩
    rw [amidF_snoc] at done
    split
    · rename_i c
      have c' : Amids a b k.1 := c
      rw [if_pos c'] at done
      obtain ⟨i1, i2, i3, i4⟩ := inv_ok hlt c'
      try wide_line
      refine ⟨_, _, rfl, bk.1.mono (by omega), ba.2.mono (by omega), ?_⟩
      refine ⟨_, _, rfl, hab.mono hN, hlt, ?_⟩
      have s1 : Bd (2 * N + 1) (b.2 - a.2) := bb.2.sub ba.2
      have s2 : Bd (2 * N + 1) (b.1 - a.1) := bb.1.sub ba.1
      have s3 : Bd (4 * N + 2) (slp a b) := s1.div s2 (by grind)
      have s4 : Bd (N + K + 1) (k.1 - a.2) := bk.1.sub ba.2
      refine ⟨_, _, rfl, s4.mono (by omega), s3.mono (by omega), i4, ?_⟩
      have s5 : Bd (5 * N + K + 3) ((k.1 - a.2) / slp a b) := s4.div s3 i4
      wide_line with t_knots_amid_s3
      refine ⟨⟨_, rfl⟩, _, _, rfl, ba.1.mono (by omega), s5.mono (by omega), ?_⟩
      try wide_line
      refine ⟨?_, ?_⟩
      · have : (amidF a b don).length ≤ don.length := by
          unfold amidF
          rw [List.length_map]
          exact List.length_filter_le _ _
        simp [sizeLine_eq]
        omega
      · have := done (some (fr ((k.1 - a.2) / slp a b)))
        rw [List.map_append] at this
        exact this
    · rename_i c
      have c' : ¬ Amids a b k.1 := c
      rw [if_neg c', List.append_nil] at done
      exact done _

/-! ### least_knots -/
def t_least_knots_b2 : DTS :=
  (sIf (tBool (dNe (dCall sp_slope_between (aCons (dIx (dVar 1) (dNeg (dC (.int 1)))) (aCons (dIx (dVar 0) (dVar 2)) aNil))) (dCall sp_slope_between (aCons (dIx (dVar 0) (dVar 2)) (aCons (dIx (dVar 0) (dPlus (dVar 2) (dC (.int 1)))) aNil))))) (sDrop (dM gAppend (dVar 1) (aCons (dIx (dVar 0) (dVar 2)) aNil))) sNext)
def t_least_knots_s3 : DTS :=
  (sRet (dTupN (nCatEN (dVar 1) (nLst (aCons (dIx (dVar 0) (dNeg (dC (.int 1)))) aNil)))))
def t_least_knots_s1 : DTS :=
  (sSeq (sFor (iRng2' (dC (.int 1)) (dSub (dB gLen (aCons (dVar 0) aNil)) (dC (.int 1)))) (gName' 2) t_least_knots_b2) t_least_knots_s3)
def t_least_knots : DTS :=
  (sSeq (sSetN 1 (nLst (aCons (dIx (dVar 0) (dC (.int 0))) aNil))) t_least_knots_s1)
def spLeast : DSp := fun ds m R _ => ∃ ks : List Kn, (ds = [mapD ks] ∨ ∃ a, ds = [.ref a] ∧ m a = some (.lst (ks.map knD))) ∧ 2 ≤ ks.length ∧ ks.length ≤ 16000000 ∧ Inc ks ∧ BdK 900 ks ∧ R (mapD (leastK ks)) m
abbrev sp_least_knots : DSp := spLeast
theorem len_least_knots : ∀ ds m R E, sp_least_knots ds m R E → ds.length = (["knots"] : List Str).length := by
  rintro ds m R E ⟨a, rfl | ⟨_, rfl, _⟩, _⟩ <;> rfl
theorem rd_least_tup (ks : List Kn) (m : Mu) (R : DK) (h2 : 2 ≤ ks.length) (hl : ks.length ≤ 16000000) (hI : Inc ks) (hB : BdK 900 ks) (hR : R (mapD (leastK ks)) m) : t_least_knots (dends R) [some (mapD ks), none, none] m := by
  match ks, h2 with
  | a0 :: l0, h2 =>
  wide_open with (t_least_knots, t_least_knots_s1, mapD)
  rw [List.map_cons]
  wide_open
  refine fun b hb => ⟨?_, ?_⟩
  · simp at hl ⊢; omega
  · have hn : (((l0.map knD).length + 1 : Nat) - 1 - 1 : Int).toNat = l0.length - 1 := by
      simp only [List.length_map]
      omega
    rw [hn]
    have h0 : l0 ≠ [] := by
      intro e
      subst e
      simp at h2
    refine for_rng 1 (l0.length - 1) (fun j r m' => ∃ acc last q, r = [some (.tup (knD a0 :: l0.map knD)), some (.ref b), q] ∧ m' = mput m b (.lst (acc.map knD ++ [knD last])) ∧ acc ++ last :: lk last (l0.drop j) = a0 :: lk a0 l0 ∧ Inc (last :: l0.drop j) ∧ last ∈ a0 :: l0 ∧ acc.length ≤ j) ?_ ?_ _ _ ⟨[], a0, _, rfl, rfl, rfl, hI, List.mem_cons_self, by simp⟩
    · rintro r m' ⟨acc, last, q, rfl, rfl, e, hi, hlast, hacc⟩
      refine ⟨trivial, ?_⟩
      obtain ⟨z, ez, ez'⟩ := drop_one_cons h0
      rw [ez] at e
      wide_open with t_least_knots_s3
      refine at_last (x := knD z) ?_ ?_
      · rw [← List.map_cons, List.getLast?_map, List.getLast?_cons, ez']
        rfl
      · refine ⟨?_, fin_new hb ?_⟩
        · simp [sizeLine_eq] at hl ⊢
          omega
        · have e2 : acc.map knD ++ [knD last] ++ [knD z] = (leastK (a0 :: l0)).map knD := by
            have : leastK (a0 :: l0) = acc ++ [last, z] := by
              rw [show leastK (a0 :: l0) = a0 :: lk a0 l0 from rfl, ← e]
              rfl
            rw [this]
            simp
          rw [e2]
          exact hR
    · rintro j hj nx hnx r m' ⟨acc, last, q, rfl, rfl, e, hi, hlast, hacc⟩
      refine ⟨trivial, ?_⟩
      obtain ⟨k, n, rest, ed, ek, en, ed'⟩ := drop_two_cons (l := l0) (j := j) (by omega)
      rw [ed] at e hi
      have mk : k ∈ a0 :: l0 := List.mem_cons_of_mem _ (List.mem_of_getElem? ek)
      have mn : n ∈ a0 :: l0 := List.mem_cons_of_mem _ (List.mem_of_getElem? en)
      have bd : ∀ x ∈ a0 :: l0, Bd 1500 x.1 ∧ Bd 1500 x.2 := fun x hx => ⟨(hB x hx).1.mono (by decide), (hB x hx).2.mono (by decide)⟩
      wide_open with t_least_knots_b2
      have gk : (knD a0 :: l0.map knD)[j + 1]? = some (knD k) := by simp [ek]
      have gn : (knD a0 :: l0.map knD)[j + 2]? = some (knD n) := by simp [en]
      refine atK_of (n := j + 1) (by omega) gk ?_
      refine ⟨last, k, rfl, ?_, hi.lt, ?_⟩
      · intro x hx
        simp at hx
        rcases hx with rfl | rfl
        · exact bd _ hlast
        · exact bd _ mk
      refine atK_of (n := j + 1) (by omega) gk ?_
      refine atK_of (n := j + 2) (by omega) gn ?_
      refine ⟨k, n, rfl, ?_, hi.tail.lt, ?_⟩
      · intro x hx
        simp at hx
        rcases hx with rfl | rfl
        · exact bd _ mk
        · exact bd _ mn
      refine enc_fr.gNe ?_
      wide_open
      rw [lk_cons] at e
      split
      · rename_i c
        rw [if_neg c] at e
        refine ⟨⟨_, rfl⟩, atK_of (n := j + 1) (by omega) gk ?_⟩
        refine ⟨?_, hnx _ _ ⟨acc ++ [last], k, _, rfl, by simp, ?_, ?_, mk, ?_⟩⟩
        · simp [sizeLine_eq] at hl ⊢
          omega
        · rw [ed', ← e]
          simp
        · rw [ed']
          exact hi.tail
        · simp
          omega
      · rename_i c
        rw [if_pos (Classical.not_not.mp c)] at e
        refine hnx _ _ ⟨acc, last, _, rfl, rfl, ?_, ?_, hlast, by omega⟩
        · rw [ed']
          exact e
        · rw [ed']
          exact hi.skip
theorem rd_least_lst (ks : List Kn) (m : Mu) (R : DK) (k0 : Addr) (hm : m k0 = some (.lst (ks.map knD))) (h2 : 2 ≤ ks.length) (hl : ks.length ≤ 16000000) (hI : Inc ks) (hB : BdK 900 ks) (hR : R (mapD (leastK ks)) m) : t_least_knots (dends R) [some (.ref k0), none, none] m := by
  match ks, h2 with
  | a0 :: l0, h2 =>
  rw [List.map_cons] at hm
  wide_open with (t_least_knots, t_least_knots_s1, hm)
  intro b hb
  have hmb : ∀ o, mput m b o k0 = some (.lst (knD a0 :: l0.map knD)) := fun o => by rw [mput_ne (ne_of hm hb)]; exact hm
  wide_open with hmb
  refine ⟨?_, ?_⟩
  · simp at hl ⊢; omega
  · have hn : (((l0.map knD).length + 1 : Nat) - 1 - 1 : Int).toNat = l0.length - 1 := by
      simp only [List.length_map]
      omega
    rw [hn]
    have h0 : l0 ≠ [] := by
      intro e
      subst e
      simp at h2
    refine for_rng 1 (l0.length - 1) (fun j r m' => ∃ acc last q, r = [some (.ref k0), some (.ref b), q] ∧ m' = mput m b (.lst (acc.map knD ++ [knD last])) ∧ acc ++ last :: lk last (l0.drop j) = a0 :: lk a0 l0 ∧ Inc (last :: l0.drop j) ∧ last ∈ a0 :: l0 ∧ acc.length ≤ j) ?_ ?_ _ _ ⟨[], a0, _, rfl, rfl, rfl, hI, List.mem_cons_self, by simp⟩
    · rintro r m' ⟨acc, last, q, rfl, rfl, e, hi, hlast, hacc⟩
      refine ⟨trivial, ?_⟩
      obtain ⟨z, ez, ez'⟩ := drop_one_cons h0
      rw [ez] at e
      wide_open with (t_least_knots_s3, hmb)
      refine at_last (x := knD z) ?_ ?_
      · rw [← List.map_cons, List.getLast?_map, List.getLast?_cons, ez']
        rfl
      · refine ⟨?_, fin_new hb ?_⟩
        · simp [sizeLine_eq] at hl ⊢
          omega
        · have e2 : acc.map knD ++ [knD last] ++ [knD z] = (leastK (a0 :: l0)).map knD := by
            have : leastK (a0 :: l0) = acc ++ [last, z] := by
              rw [show leastK (a0 :: l0) = a0 :: lk a0 l0 from rfl, ← e]
              rfl
            rw [this]
            simp
          rw [e2]
          exact hR
    · rintro j hj nx hnx r m' ⟨acc, last, q, rfl, rfl, e, hi, hlast, hacc⟩
      refine ⟨trivial, ?_⟩
      obtain ⟨k, n, rest, ed, ek, en, ed'⟩ := drop_two_cons (l := l0) (j := j) (by omega)
      rw [ed] at e hi
      have mk : k ∈ a0 :: l0 := List.mem_cons_of_mem _ (List.mem_of_getElem? ek)
      have mn : n ∈ a0 :: l0 := List.mem_cons_of_mem _ (List.mem_of_getElem? en)
      have bd : ∀ x ∈ a0 :: l0, Bd 1500 x.1 ∧ Bd 1500 x.2 := fun x hx => ⟨(hB x hx).1.mono (by decide), (hB x hx).2.mono (by decide)⟩
      wide_open with (t_least_knots_b2, hmb)
      have gk : (knD a0 :: l0.map knD)[j + 1]? = some (knD k) := by simp [ek]
      have gn : (knD a0 :: l0.map knD)[j + 2]? = some (knD n) := by simp [en]
      refine atK_of (n := j + 1) (by omega) gk ?_
      refine ⟨last, k, rfl, ?_, hi.lt, ?_⟩
      · intro x hx
        simp at hx
        rcases hx with rfl | rfl
        · exact bd _ hlast
        · exact bd _ mk
      try wide_open with hmb
      refine atK_of (n := j + 1) (by omega) gk ?_
      try wide_open with hmb
      refine atK_of (n := j + 2) (by omega) gn ?_
      refine ⟨k, n, rfl, ?_, hi.tail.lt, ?_⟩
      · intro x hx
        simp at hx
        rcases hx with rfl | rfl
        · exact bd _ mk
        · exact bd _ mn
      refine enc_fr.gNe ?_
      wide_open
      rw [lk_cons] at e
      split
      · rename_i c
        rw [if_neg c] at e
        refine ⟨⟨_, rfl⟩, ?_⟩
        try wide_open with hmb
        refine atK_of (n := j + 1) (by omega) gk ?_
        refine ⟨?_, hnx _ _ ⟨acc ++ [last], k, _, rfl, by simp, ?_, ?_, mk, ?_⟩⟩
        · simp [sizeLine_eq] at hl ⊢
          omega
        · rw [ed', ← e]
          simp
        · rw [ed']
          exact hi.tail
        · simp
          omega
      · rename_i c
        rw [if_pos (Classical.not_not.mp c)] at e
        refine hnx _ _ ⟨acc, last, _, rfl, rfl, ?_, ?_, hlast, by omega⟩
        · rw [ed']
          exact e
        · rw [ed']
          exact hi.skip
theorem rd_least_knots : ∀ ds m R E, sp_least_knots ds m R E → t_least_knots (dends R) (dstart 3 ds) m := by
  rintro ds m R E ⟨ks, rfl | ⟨a, rfl, hm⟩, h2, hl, hI, hB, hR⟩
  · exact rd_least_tup ks m R h2 hl hI hB hR
  · exact rd_least_lst ks m R a hm h2 hl hI hB hR

/-! ### value_of -/
def t_value_of_b3 : DTS :=
  (sAug 2 (dC (.int 1)) (gI0 fun i j => .int (i + j)))
def t_value_of_s6 : DTS :=
  (sRet (dCall sp_frac_plus (aCons (dIx (dVar 3) (dC (.int 1))) (aCons (dVar 4) aNil))))
def t_value_of_s5 : DTS :=
  (sSeq (sSet 4 (dCall sp_frac_times (aCons (dCall sp_slope_between (aCons (dVar 3) (aCons (dIx (dVar 0) (dVar 2)) aNil))) (aCons (dCall sp_frac_less (aCons (dVar 1) (aCons (dIx (dVar 3) (dC (.int 0))) aNil))) aNil)))) t_value_of_s6)
def t_value_of_s4 : DTS :=
  (sSeq (sSet 3 (dIx (dVar 0) (dSub (dVar 2) (dC (.int 1))))) t_value_of_s5)
def t_value_of_s2 : DTS :=
  (sSeq (sWhile (tBool (dLt (dCall sp_frac_side (aCons (dIx (dIx (dVar 0) (dVar 2)) (dC (.int 0))) (aCons (dVar 1) aNil))) (dC (.int 0)))) t_value_of_b3) t_value_of_s4)
def t_value_of_s1 : DTS :=
  (sSeq (sSet 2 (dC (.int 1))) t_value_of_s2)
def t_value_of : DTS :=
  (sSeq (sIf (tOr' (tBool (dLt (dCall sp_frac_side (aCons (dVar 1) (aCons (dIx (dIx (dVar 0) (dC (.int 0))) (dC (.int 0))) aNil))) (dC (.int 0)))) (tBool (dGt (dCall sp_frac_side (aCons (dVar 1) (aCons (dIx (dIx (dVar 0) (dNeg (dC (.int 1)))) (dC (.int 0))) aNil))) (dC (.int 0))))) sNever sNext) t_value_of_s1)
def spVal : DSp := fun ds m R _ => ∃ (ks : List Kn) (p : Rat), ds = [mapD ks, fr p] ∧ 2 ≤ ks.length ∧ Inc ks ∧ VlS ks ∧ Bd 1500 p ∧ loK ks ≤ p ∧ p ≤ hiK ks ∧ R (fr (valK ks p)) m
abbrev sp_value_of : DSp := spVal
theorem len_value_of : ∀ ds m R E, sp_value_of ds m R E → ds.length = (["knots", "point"] : List Str).length := by
  rintro ds m R E ⟨a, p, rfl, _⟩; rfl
theorem val_drop : ∀ (j : Nat) {ks : List Kn} {p : Rat}, Inc ks → (∀ i (h : i < ks.length), 0 < i → i ≤ j → ks[i].1 < p) → j < ks.length → valK ks p = valK (ks.drop j) p
  | 0, ks, p, _, _, _ => by rw [List.drop_zero]
  | j + 1, ks, p, hi, h, hj => by
    match ks, hj with
    | a :: b :: l, hj =>
      have hb : b.1 < p := h 1 (by simp) (by omega) (by omega)
      rw [valK_2 hi.lt, if_pos hb, List.drop_succ_cons]
      exact val_drop j hi.tail (fun i hi' h0 hij => h (i + 1) (by simpa using hi') (by omega) (by omega)) (by simpa using hj)
theorem rd_value_of : ∀ ds m R E, sp_value_of ds m R E → t_value_of (dends R) (dstart 5 ds) m := by
  rintro ds m R E ⟨ks, p, rfl, h2, hI, ⟨N, S, hB, hS, hN, hNK⟩, hp, p1, p2, hR⟩
  show t_value_of (dends R) [some (mapD ks), some (fr p), none, none, none] m
  have h0 : ks ≠ [] := by
    intro e
    rw [e] at h2
    simp at h2
  have g0 : (ks.map knD)[0]? = some (knD ks[0]) := by rw [List.getElem?_map, List.getElem?_eq_getElem (by omega)]; rfl
  have gL : (ks.map knD).getLast? = some (knD (ks.getLast h0)) := by rw [List.getLast?_map, List.getLast?_eq_some_getLast h0]; rfl
  have m0 : ks[0] ∈ ks := List.getElem_mem _
  have mL : ks.getLast h0 ∈ ks := List.getLast_mem h0
  have lo : loK ks = ks[0].1 := by
    cases ks with
    | nil => exact absurd rfl h0
    | cons a l => rfl
  have hiE : hiK ks = (ks.getLast h0).1 := hiK_lastK (List.getLast?_eq_some_getLast h0)
  have bp := hp.mono (show 1500 ≤ 4000 by omega)
  have bk : ∀ k ∈ ks, Bd 4000 k.1 := fun k hk => (hB k hk).1.mono (by omega)
  wide_line with t_value_of
  refine atK_of (n := 0) rfl g0 ?_
  try wide_line
  refine ⟨_, _, rfl, bp, bk _ m0, ?_⟩
  try wide_line
  rw [if_neg (by rw [sg_neg]; grind)]
  refine at_last gL ?_
  try wide_line
  refine ⟨_, _, rfl, bp, bk _ mL, ?_⟩
  try wide_line
  rw [if_neg (by rw [sg_pos]; grind)]
  wide_line with (t_value_of_s1, t_value_of_s2)
  refine while_ind (fun n r m' => ∃ j : Nat, n + j = ks.length ∧ 1 ≤ j ∧ j < ks.length ∧ (∀ i (h : i < ks.length), 0 < i → i ≤ j - 1 → ks[i].1 < p) ∧ r = [some (mapD ks), some (fr p), some (.int j), none, none] ∧ m' = m) ?_ (ks.length - 1) _ _ ⟨1, by omega, by omega, by omega, fun i h h1 h2 => by omega, rfl, rfl⟩
  rintro n nx hnx r m' ⟨j, hn, j1, j2, hlt, rfl, rfl⟩
  have gj : (ks.map knD)[j]? = some (knD ks[j]) := by simp [j2]
  have mj : ks[j] ∈ ks := List.getElem_mem _
  try wide_line
  refine atK_of (n := j) rfl gj ?_
  try wide_line
  refine ⟨_, _, rfl, bk _ mj, bp, ?_⟩
  try wide_line
  split
  · rename_i c
    rw [sg_neg] at c
    wide_line with t_value_of_b3
    have hj : j + 1 < ks.length := by
      rcases Nat.lt_or_ge (j + 1) ks.length with h | h
      · exact h
      · have e : ks.getLast h0 = ks[j] := by
          rw [List.getLast_eq_getElem]
          congr 1
          omega
        rw [hiE, e] at p2
        grind
    refine hnx (n - 1) _ _ (by omega) ⟨j + 1, by omega, by omega, hj, fun i h h1 h2 => ?_, by simp, rfl⟩
    by_cases e : i = j
    · subst e
      exact c
    · exact hlt i h h1 (by omega)
  · rename_i c
    rw [sg_neg] at c
    have gj1 : (ks.map knD)[j - 1]? = some (knD ks[j - 1]) := by simp [show j - 1 < ks.length by omega]
    have mj1 : ks[j - 1] ∈ ks := List.getElem_mem _
    have b1 := hB _ mj1
    have b2 := hB _ mj
    have hl : ks[j - 1].1 < ks[j].1 := List.pairwise_iff_getElem.mp hI (j - 1) j (by omega) j2 (by omega)
    wide_line with t_value_of_s4
    refine atK_of (n := j - 1) (by omega) gj1 ?_
    wide_line with t_value_of_s5
    refine atK_of (n := j) rfl gj ?_
    refine ⟨_, _, rfl, ?_, hl, ?_⟩
    · intro x hx
      simp at hx
      rcases hx with rfl | rfl
      · exact ⟨b1.1.mono (by omega), b1.2.mono (by omega)⟩
      · exact ⟨b2.1.mono (by omega), b2.2.mono (by omega)⟩
    try wide_line
    refine ⟨_, _, rfl, bp, bk _ mj1, ?_⟩
    have hpr : (ks[j - 1], ks[j]) ∈ pairs ks := by
      have h := pairs_at (l := ks) (j := j - 1) (by omega)
      have e : ks[j - 1 + 1]'(by omega) = ks[j] := by
        congr 1
        omega
      rw [e] at h
      exact List.mem_of_getElem? h
    have s3 : Bd S (slp ks[j - 1] ks[j]) := hS _ hpr
    have s4 : Bd (N + 1500 + 1) (p - ks[j - 1].1) := hp.sub b1.1
    refine ⟨_, _, rfl, s3.mono (by omega), s4.mono (by omega), ?_⟩
    have s5 : Bd (S + N + 1501) (slp ks[j - 1] ks[j] * (p - ks[j - 1].1)) := s3.mul s4
    wide_line with t_value_of_s6
    refine ⟨_, _, rfl, b1.2.mono (by omega), s5.mono (by omega), ?_⟩
    have e : valK ks p = ks[j - 1].2 + slp ks[j - 1] ks[j] * (p - ks[j - 1].1) := by
      rw [val_drop (j - 1) hI hlt (by omega), List.drop_eq_getElem_cons (by omega), List.drop_eq_getElem_cons (by omega)]
      have ej : ks[j - 1 + 1] = ks[j] := by
        congr 1
        omega
      rw [valK_2 (by rw [ej]; exact hl), if_neg (by rw [ej]; exact c), ej]
      rfl
    rw [e] at hR
    exact fin_of hR

/-! ### put_behind -/
def t_put_behind_s4 : DTS :=
  (sDrop (dM gAppend (dVar 2) (aCons (dTup (aCons (dIx (dVar 4) (dC (.int 0))) (aCons (dCall sp_value_of (aCons (dVar 1) (aCons (dIx (dVar 4) (dC (.int 1))) aNil))) aNil))) aNil)))
def t_put_behind_b3 : DTS :=
  (sSeq (sDrop (dM gExt (dVar 2) (aCons (dCall sp_knots_amid (aCons (dVar 3) (aCons (dVar 4) (aCons (dVar 1) aNil)))) aNil))) t_put_behind_s4)
def t_put_behind_s5 : DTS :=
  (sRet (dCall sp_least_knots (aCons (dVar 2) aNil)))
def t_put_behind_s2 : DTS :=
  (sSeq (sFor (iZip' (dVar 0) (dCut (dVar 0) (oSome (dC (.int 1))) oNone)) (gTup' 2 (gCons' (gName' 3) (gCons' (gName' 4) gNil'))) t_put_behind_b3) t_put_behind_s5)
def t_put_behind_s1 : DTS :=
  (sSeq (sSetN 2 (nLst (aCons (dTup (aCons (dIx (dIx (dVar 0) (dC (.int 0))) (dC (.int 0))) (aCons (dCall sp_value_of (aCons (dVar 1) (aCons (dIx (dIx (dVar 0) (dC (.int 0))) (dC (.int 1))) aNil))) aNil))) aNil))) t_put_behind_s2)
def t_put_behind : DTS :=
  (sSeq (sIf (tOr' (tBool (dNe (dIx (dIx (dVar 0) (dC (.int 0))) (dC (.int 0))) (dIx (dIx (dVar 1) (dC (.int 0))) (dC (.int 0))))) (tBool (dNe (dIx (dIx (dVar 0) (dNeg (dC (.int 1)))) (dC (.int 0))) (dIx (dIx (dVar 1) (dNeg (dC (.int 1)))) (dC (.int 0)))))) sNever sNext) t_put_behind_s1)
def sp_put_behind : DSp := fun ds m R _ => ∃ (one o : List Kn) (L U : Rat), ds = [mapD one, mapD o] ∧ Good L U one ∧ Good L U o ∧ SzP one o ∧ VlS o ∧ BdK 900 (behK one o) ∧ o.length ≤ 100000 ∧ one.length * (o.length + 1) ≤ 16000000 ∧ R (mapD (leastK (behK one o))) m
theorem len_put_behind : ∀ ds m R E, sp_put_behind ds m R E → ds.length = (["one", "other"] : List Str).length := by
  rintro ds m R E ⟨a, b, _, _, rfl, _⟩; rfl
theorem rd_put_behind : ∀ ds m R E, sp_put_behind ds m R E → t_put_behind (dends R) (dstart 5 ds) m := by
  rintro ds m R E ⟨one, o, L, U, rfl, g1, g2, hz, hv, b3, ho, hlen, hR⟩
  show t_put_behind (dends R) [some (mapD one), some (mapD o), none, none, none] m
  obtain ⟨N, K, b1, b2, hN, hK, hNK⟩ := hz
  obtain ⟨a, ea, ma, aL, ga⟩ := g1.headD
  obtain ⟨c, ec, mc, cL, gc⟩ := g2.headD
  obtain ⟨y, ey, yU, gy⟩ := g1.last
  obtain ⟨z, ez, zU, gz⟩ := g2.last
  wide_line with t_put_behind
  refine atK_of (n := 0) rfl ga ?_
  try wide_line
  refine atK_of (n := 0) rfl gc ?_
  try wide_line
  refine enc_fr.gNe ?_
  rw [decide_eq_true (aL.trans cL.symm)]
  try wide_line
  refine at_last gy ?_
  try wide_line
  refine at_last gz ?_
  try wide_line
  refine enc_fr.gNe ?_
  rw [decide_eq_true (yU.trans zU.symm)]
  wide_line with t_put_behind_s1
  refine atK_of (n := 0) rfl ga ?_
  try wide_line
  refine atK_of (n := 0) rfl ga ?_
  try wide_line
  have ra := g1.rng a ma
  refine ⟨o, a.2, rfl, g2.len, g2.inc, hv, (b1 a ma).2.mono hN, by rw [g2.lo]; exact ra.1, by rw [g2.hi]; exact ra.2, ?_⟩
  try wide_line
  intro f hf
  wide_line with t_put_behind_s2
  have hpos := List.length_pos_iff.mpr g1.ne
  rw [cutD_drop (by decide) (by simp only [Int.reduceToNat]; omega), show (1 : Int).toNat = 1 from rfl, zip_pairs]
  have hbl := behK_len (one := one) (o := o)
  refine for_ind _ (fun xs r m' => ∃ (suf acc : List Kn) (q3 q4 : Option D), xs = pairs suf ∧ suf ≠ [] ∧ (∀ p ∈ pairs suf, p ∈ pairs one) ∧ acc ++ behL o suf = behK one o ∧ r = [some (mapD one), some (mapD o), some (.ref f), q3, q4] ∧ m' f = some (.lst (acc.map knD)) ∧ Sub m m') ?_ ?_ _ _ _ ⟨one, [(a.1, valK o a.2)], _, _, rfl, g1.ne, fun p hp => hp, ?_, rfl, mput_same, Sub.new hf⟩
  · rintro r m' ⟨suf, acc, q3, q4, e0, hs, hp, e, rfl, hm, hsub⟩
    refine ⟨trivial, ?_⟩
    have ebl : behL o suf = [] := by
      match suf, hs, e0 with
      | [w], _, _ => rw [behL]; simp
      | _ :: _ :: _, _, e0 => rw [pairs_cons] at e0; cases e0
    rw [ebl, List.append_nil] at e
    wide_line with t_put_behind_s5
    have gb := (isBeh_behK g1 g2).good g1 g2
    refine ⟨behK one o, .inr ⟨f, rfl, by rw [← e]; exact hm⟩, gb.len, by omega, gb.inc, b3, ?_⟩
    exact ⟨m, hsub, hR⟩
  · rintro x xs nx hnx r m' ⟨suf, acc, q3, q4, e0, hs, hp, e, rfl, hm, hsub⟩
    refine ⟨trivial, ?_⟩
    rcases suf with _ | ⟨u, _ | ⟨v, l⟩⟩
    · exact absurd rfl hs
    · simp [pairs] at e0
    rw [pairs_cons] at e0 hp
    injection e0 with e1 e2
    subst e1
    subst e2
    have huv : (u, v) ∈ pairs one := hp _ List.mem_cons_self
    have ult := pairs_lt g1.inc huv
    have mu := (pairs_mem huv).1
    have mv := (pairs_mem huv).2
    have rv := g1.rng v mv
    have hacc : acc.length + (amidK u v o).length + 1 ≤ 16000000 := by
      have := congrArg List.length e
      rw [behL_cons] at this
      simp at this
      omega
    wide_line with (t_put_behind_b3, hm)
    refine ⟨⟨_, rfl⟩, u, v, o, rfl, ult, ⟨N, K, ?_, b2, hN, hK, hNK⟩, ho, fun g hg => ?_⟩
    · intro k hk
      simp at hk
      rcases hk with rfl | rfl
      · exact b1 _ mu
      · exact b1 _ mv
    have hgf : f ≠ g := ne_of hm hg
    have hmg : ∀ o', mput m' g o' f = some (.lst (acc.map knD)) := fun o' => by rw [mput_ne hgf]; exact hm
    wide_line with hmg
    refine ⟨?_, ?_⟩
    · simp [sizeLine_eq]
      omega
    wide_line with t_put_behind_s4
    refine ⟨⟨_, rfl⟩, o, v.2, rfl, g2.len, g2.inc, hv, (b1 v mv).2.mono hN, by rw [g2.lo]; exact rv.1, by rw [g2.hi]; exact rv.2, ?_⟩
    try wide_line
    refine ⟨?_, hnx _ _ ⟨v :: l, acc ++ amidK u v o ++ [(v.1, valK o v.2)], _, _, rfl, by simp, fun p h => hp p (List.mem_cons_of_mem _ h), ?_, rfl, ?_, ?_⟩⟩
    · simp [sizeLine_eq]
      omega
    · rw [← e, behL_cons]
      simp
    · rw [mput_same]
      simp [knD]
    · intro d w hd
      rw [mput_ne (ne_of hd hf)]
      by_cases c : d = g
      · subst c
        have := hsub d w hd
        rw [hg] at this
        cases this
      · rw [mput_ne c]
        exact hsub d w hd
  · match one, ea with
    | a' :: l', ea =>
      simp at ea
      subst ea
      rfl

/-! ### turned -/
def t_turned_b4 : DTS :=
  (sSet 4 (dCall sp_put_behind (aCons (dVar 4) (aCons (dVar 0) aNil))))
def t_turned_s5 : DTS :=
  (sRet (dVar 4))
def t_turned_s3 : DTS :=
  (sSeq (sFor (iRng1' (dVar 1)) (gName' 5) t_turned_b4) t_turned_s5)
def t_turned_s2 : DTS :=
  (sSeq (sSet 4 (dTup (aCons (dTup (aCons (dVar 2) (aCons (dVar 2) aNil))) (aCons (dTup (aCons (dVar 3) (aCons (dVar 3) aNil))) aNil)))) t_turned_s3)
def t_turned_s1 : DTS :=
  (sSeq (sSet 3 (dIx (dIx (dVar 0) (dNeg (dC (.int 1)))) (dC (.int 0)))) t_turned_s2)
def t_turned : DTS :=
  (sSeq (sSet 2 (dIx (dIx (dVar 0) (dC (.int 0))) (dC (.int 0)))) t_turned_s1)
def sp_turned : DSp := fun ds m R _ => ∃ (ks : List Kn) (n : Nat), ds = [mapD ks, .int n] ∧ TurS ks n ∧ R (mapD (turnK ks n)) m
theorem len_turned : ∀ ds m R E, sp_turned ds m R E → ds.length = (["knots", "many"] : List Str).length := by
  rintro ds m R E ⟨a, b, rfl, _⟩; rfl
theorem rd_turned : ∀ ds m R E, sp_turned ds m R E → t_turned (dends R) (dstart 6 ds) m := by
  rintro ds m R E ⟨ks, n, rfl, T, hR⟩
  show t_turned (dends R) [some (mapD ks), some (.int n), none, none, none, none] m
  have g := T.good
  obtain ⟨a, ea, ma, aL, ga⟩ := g.headD
  obtain ⟨z, ez, zU, gz⟩ := g.last
  wide_line with t_turned
  refine atK_of (n := 0) rfl ga ?_
  wide_line with t_turned_s1
  refine at_last gz ?_
  wide_line with (t_turned_s2, t_turned_s3)
  have hn := T.n7
  refine ⟨by omega, ?_⟩
  rw [aL, zU, Int.toNat_natCast]
  refine for_rng 0 n (fun j r m' => ∃ (q5 : Option D), r = [some (mapD ks), some (.int n), some (fr (loK ks)), some (fr (hiK ks)), some (mapD (turnK ks j)), q5] ∧ m' = m) ?_ ?_ _ _ ⟨_, rfl, rfl⟩
  · rintro r m' ⟨q5, rfl, rfl⟩
    refine ⟨trivial, ?_⟩
    wide_line with t_turned_s5
    exact fin_of hR
  · rintro j hj nx hnx r m' ⟨q5, rfl, rfl⟩
    refine ⟨trivial, ?_⟩
    wide_line with t_turned_b4
    obtain ⟨z1, z2, z3⟩ := T.sz j hj
    refine ⟨turnK ks j, ks, loK ks, hiK ks, rfl, turnK_good g j, g, z1, T.vl, z2, T.ol, z3, ?_⟩
    exact hnx _ _ ⟨_, rfl, rfl⟩

/-! ### come_round -/
def t_come_round : DTS :=
  (sRet (dCall sp_stays_of (aCons (dCall sp_turned (aCons (dVar 0) (aCons (dVar 1) aNil))) aNil)))
def sp_come_round : DSp := fun ds m R _ => ∃ (ks : List Kn) (n : Nat), ds = [mapD ks, .int n] ∧ RnS ks n ∧ R (mapD (noughtsK (stayR (turnK ks n)))) m
theorem len_come_round : ∀ ds m R E, sp_come_round ds m R E → ds.length = (["knots", "many"] : List Str).length := by
  rintro ds m R E ⟨a, b, rfl, _⟩; rfl
theorem rd_come_round : ∀ ds m R E, sp_come_round ds m R E → t_come_round (dends R) (dstart 2 ds) m := by
  rintro ds m R E ⟨ks, n, rfl, h, hR⟩
  show t_come_round (dends R) [some (mapD ks), some (.int n)] m
  wide_line with t_come_round
  refine ⟨ks, n, rfl, h.toTurS, ?_⟩
  refine ⟨turnK ks n, _, rfl, .inl rfl, by have := (turnK_good h.good n).len; omega, h.len, h.bd, h.nt, ?_⟩
  exact fin_of hR

/-! ### round_from -/
def t_round_from_b2 : DTS :=
  (sDrop (dM gAppend (dVar 3) (aCons (dCall sp_value_of (aCons (dVar 0) (aCons (dIx (dVar 3) (dNeg (dC (.int 1)))) aNil))) aNil)))
def t_round_from_s3 : DTS :=
  (sRet (dB gTupleOf (aCons (dVar 3) aNil)))
def t_round_from_s1 : DTS :=
  (sSeq (sWhile (tBool (dLt (dB gLen (aCons (dVar 3) aNil)) (dVar 2))) t_round_from_b2) t_round_from_s3)
def t_round_from : DTS :=
  (sSeq (sSetN 3 (nLst (aCons (dVar 1) aNil))) t_round_from_s1)
def sp_round_from : DSp := fun ds m R _ => ∃ (ks : List Kn) (x : Rat) (n : Nat), ds = [mapD ks, fr x, .int n] ∧ 1 ≤ n ∧ n ≤ 7 ∧ Good (loK ks) (hiK ks) ks ∧ VlS ks ∧ loK ks ≤ x ∧ x ≤ hiK ks ∧ (∀ j, j < n → Bd 1500 (iterV ks j x)) ∧ R (rowD (wayR ks x n)) m
theorem len_round_from : ∀ ds m R E, sp_round_from ds m R E → ds.length = (["knots", "point", "many"] : List Str).length := by
  rintro ds m R E ⟨a, b, c, rfl, _⟩; rfl
theorem rd_round_from : ∀ ds m R E, sp_round_from ds m R E → t_round_from (dends R) (dstart 4 ds) m := by
  rintro ds m R E ⟨ks, x, n, rfl, n1, n7, g, hV, x1, x2, hb, hR⟩
  show t_round_from (dends R) [some (mapD ks), some (fr x), some (.int n), none] m
  wide_line with t_round_from
  intro f hf
  wide_line with t_round_from_s1
  refine while_ind (fun k r M => ∃ j : Nat, k + j + 1 = n ∧ r = [some (mapD ks), some (fr x), some (.int n), some (.ref f)] ∧ M = mput m f (.lst ((wayR ks x (j + 1)).map fr))) ?_ (n - 1) _ _ ⟨0, by omega, rfl, rfl⟩
  rintro k nx hnx r M ⟨j, hk, rfl, rfl⟩
  wide_line with mput_same
  rw [List.length_map, wayR_len]
  by_cases c : j + 1 < n
  · rw [if_pos (by omega)]
    wide_line with (t_round_from_b2, mput_same)
    refine ⟨⟨_, rfl⟩, ?_⟩
    rw [wayR_succ, List.map_append, List.map_cons, List.map_nil, atK_last]
    have r := iterV_rng g x1 x2 j
    refine ⟨ks, _, rfl, g.len, g.inc, hV, hb j (by omega), r.1, r.2, ?_⟩
    try wide_line
    refine ⟨by simp [sizeLine_eq, wayR_len]; omega, ?_⟩
    refine hnx (k - 1) _ _ (by omega) ⟨j + 1, by omega, rfl, ?_⟩
    rw [wayR_succ, wayR_succ]
    simp
    rfl
  · rw [if_neg (by omega)]
    have e : j + 1 = n := by omega
    subst e
    wide_line with (t_round_from_s3, mput_same)
    exact fin_new hf hR

/-! ### rounds_of -/
def t_rounds_of_s3 : DTS :=
  (sIf (tAnd' (tBool (dEq (dVar 3) (dVar 4))) (tBool (dNN (gEqNN false) (nLc (iRow (dCut (dVar 5) (oSome (dC (.int 1))) oNone)) (gName' 6) (tBool (dLeA (dCall sp_frac_side (aCons (dVar 6) (aCons (dVar 3) aNil))) (dC (.int 0)))) (dC (.int 1)) [6]) (nLst aNil)))) (sDrop (dM gAppend (dVar 2) (aCons (dVar 5) aNil))) sNext)
def t_rounds_of_b2 : DTS :=
  (sSeq (sSet 5 (dCall sp_round_from (aCons (dVar 0) (aCons (dVar 3) (aCons (dVar 1) aNil))))) t_rounds_of_s3)
def t_rounds_of_s4 : DTS :=
  (sRet (dB gTupleOf (aCons (dVar 2) aNil)))
def t_rounds_of_s1 : DTS :=
  (sSeq (sFor (iRow (dCall sp_come_round (aCons (dVar 0) (aCons (dVar 1) aNil)))) (gTup' 2 (gCons' (gName' 3) (gCons' (gName' 4) gNil'))) t_rounds_of_b2) t_rounds_of_s4)
def t_rounds_of : DTS :=
  (sSeq (sSetN 2 (nLst aNil)) t_rounds_of_s1)
def sp_rounds_of : DSp := fun ds m R _ => ∃ (ks : List Kn) (n : Nat), ds = [mapD ks, .int n] ∧ 1 ≤ n ∧ RnS ks n ∧ R (rdD (rdsK ks n)) m
theorem len_rounds_of : ∀ ds m R E, sp_rounds_of ds m R E → ds.length = (["knots", "many"] : List Str).length := by
  rintro ds m R E ⟨a, b, rfl, _⟩; rfl
theorem rd_rounds_of : ∀ ds m R E, sp_rounds_of ds m R E → t_rounds_of (dends R) (dstart 7 ds) m := by
  rintro ds m R E ⟨ks, n, rfl, n1, hS0, hR⟩
  show t_rounds_of (dends R) [some (mapD ks), some (.int n), none, none, none, none, none] m
  wide_line with t_rounds_of
  intro f hf
  wide_line with t_rounds_of_s1
  refine ⟨ks, n, rfl, hS0, ?_⟩
  try wide_line
  have hb := hS0.rd
  have n7 := hS0.n7
  have hl := hS0.len
  have hnl := noughts_len (stayR (turnK ks n))
  have hsl : (stayR (turnK ks n)).length = (turnK ks n).length := by unfold stayR; rw [List.length_map]
  have hR' : R (rdD (rdsP ks n (noughtsK (stayR (turnK ks n))))) m := hR
  generalize noughtsK (stayR (turnK ks n)) = ps at *
  refine for_ind knD (fun xs r M => ∃ (dn : List Kn) (q3 q4 q5 q6 : Option D), ps = dn ++ xs ∧ r = [some (mapD ks), some (.int n), some (.ref f), q3, q4, q5, q6] ∧ M f = some (.lst ((rdsP ks n dn).map rowD)) ∧ Sub m M) ?_ ?_ _ _ _ ⟨[], _, _, _, _, rfl, rfl, mput_same, Sub.new hf⟩
  · rintro r M ⟨dn, q3, q4, q5, q6, e, rfl, hF, hS⟩
    refine ⟨trivial, ?_⟩
    rw [List.append_nil] at e
    rw [e] at hR'
    wide_line with (t_rounds_of_s4, hF)
    exact ⟨m, hS, hR'⟩
  · rintro p xs nx hnx r M ⟨dn, q3, q4, q5, q6, e, rfl, hF, hS⟩
    refine ⟨trivial, ?_⟩
    have hp : p ∈ ps := by rw [e]; simp
    obtain ⟨x1, x2, bx⟩ := hb p hp p.1 (.inl rfl)
    obtain ⟨y1, y2, b_y⟩ := hb p hp p.2 (.inr rfl)
    wide_line with t_rounds_of_b2
    refine ⟨ks, p.1, n, rfl, n1, n7, hS0.good, hS0.vl, x1, x2, bx, ?_⟩
    wide_line with t_rounds_of_s3
    have skip : ¬ isRd ks n p → ∀ q5 q6, nx [some (mapD ks), some (.int n), some (.ref f), some (fr p.1), some (fr p.2), q5, q6] M := by
      intro c q5 q6
      refine hnx _ _ ⟨dn ++ [p], _, _, _, _, by rw [e]; simp, rfl, ?_, hS⟩
      rw [hF]
      unfold rdsP
      rw [List.filter_append, List.filter_cons_of_neg (by simpa using c), List.filter_nil, List.append_nil]
    refine enc_fr.gEq ?_
    try wide_line
    by_cases c1 : p.1 = p.2
    · rw [if_pos c1]
      have e5 : rowD (wayR ks p.1 n) = .tup ((wayR ks p.1 n).map fr) := rfl
      have ecut : cutD ((wayR ks p.1 n).map fr) (some 1) none = ((wayR ks p.1 n).drop 1).map fr := cutD_drop (k := 1) (by decide) (by rw [wayR_len]; exact n1)
      rw [e5]
      wide_line with ecut
      have hin : ∀ y, y ∈ (wayR ks p.1 n).drop 1 ↔ ∃ j, 0 < j ∧ j < n ∧ y = iterV ks j p.1 := by
        intro y
        rw [List.mem_drop_iff_getElem]
        constructor
        · rintro ⟨i, hi, rfl⟩
          rw [wayR_len] at hi
          refine ⟨i + 1, by omega, by omega, ?_⟩
          have := wayR_get (ks := ks) (x := p.1) (n := n) (j := i + 1) (by omega)
          rw [Nat.add_comm] at this
          rw [List.getElem?_eq_getElem (by rw [wayR_len]; omega)] at this
          simpa [Nat.add_comm] using this
        · rintro ⟨j, j0, jn, rfl⟩
          refine ⟨j - 1, by rw [wayR_len]; omega, ?_⟩
          have := wayR_get (ks := ks) (x := p.1) (n := n) (j := j) jn
          have ej : 1 + (j - 1) = j := by omega
          rw [List.getElem?_eq_getElem (by rw [wayR_len]; omega)] at this
          simpa [ej] using this
      refine lc_map fr (fun y => decide (y ≤ p.1)) (fun _ => .int 1) trivial _ _ (by rw [List.length_drop, wayR_len, sizeLine_eq]; simp; omega) ?_ ?_
      · intro y hy acc W hacc hW
        obtain ⟨j, j0, jn, rfl⟩ := (hin y).mp hy
        try wide_line
        refine ⟨_, _, rfl, (bx j (by omega)).mono (by decide), (bx 0 (by omega)).mono (by decide), ?_⟩
        try wide_line
        by_cases d : iterV ks j p.1 ≤ p.1
        · rw [if_pos (by simpa using d)] at hW
          rw [if_pos (by have := mt sg_pos.mp (show ¬ p.1 < iterV ks j p.1 by grind); omega)]
          exact ⟨hacc, hW⟩
        · rw [if_neg (by simpa using d)] at hW
          rw [if_neg (by have := sg_pos.mpr (show p.1 < iterV ks j p.1 by grind); omega)]
          exact hW
      · rw [List.nil_append]
        refine enc_nil (g := fun _ => PyData.int 1) (n := 1) (fun m k x hk => by cases k with | zero => omega | succ k => rfl) ?_
        try wide_line
        have hi : isRd ks n p ↔ (List.filter (fun y => decide (y ≤ p.1)) ((wayR ks p.1 n).drop 1)) = [] := by
          rw [List.filter_eq_nil_iff]
          constructor
          · rintro ⟨_, h⟩ y hy
            obtain ⟨j, j0, jn, rfl⟩ := (hin y).mp hy
            have := h j j0 jn
            simp
            grind
          · intro h
            refine ⟨c1, fun j j0 jn => ?_⟩
            have := h _ ((hin _).mpr ⟨j, j0, jn, rfl⟩)
            simp at this
            grind
        rw [Bool.false_xor]
        by_cases c2 : isRd ks n p
        · rw [if_pos (by simpa using hi.mp c2)]
          wide_line with hF
          refine ⟨⟨_, rfl⟩, ?_, ?_⟩
          · unfold rdsP
            rw [List.length_map, List.length_map]
            have := List.length_filter_le (fun q => @decide (isRd ks n q) (Classical.propDecidable _)) dn
            have := congrArg List.length e
            rw [sizeLine_eq]
            simp at this
            omega
          · refine hnx _ _ ⟨dn ++ [p], _, _, _, _, by rw [e]; simp, rfl, ?_, hS.wrB hf⟩
            rw [mput_same]
            unfold rdsP
            rw [List.filter_append, List.filter_cons_of_pos (by simpa using c2), List.filter_nil, List.map_append, List.map_append]
            rfl
        · rw [if_neg (fun h => c2 (hi.mpr (by simpa using h)))]
          exact skip c2 _ _
    · rw [if_neg c1]
      exact skip (fun h => c1 h.1) _ _

/-! ### law_longer_right -/
def t_law_longer_right_s2 : DTS :=
  (sRet (dAndV (dEq (dCall sp_least_knots (aCons (dVar 0) aNil)) (dVar 0)) (dEq (dCall sp_turned (aCons (dVar 0) (aCons (dC (.int 1)) aNil))) (dVar 0))))
def t_law_longer_right_s1 : DTS :=
  (sSeq (sIf (tBool (dNe (dCall sp_rounds_of (aCons (dVar 0) (aCons (dC (.int 1)) aNil))) (dTupN (nLc (iRow (dVar 1)) (gTup' 2 (gCons' (gName' 2) (gCons' (gName' 3) gNil'))) (tBool (dEq (dVar 2) (dVar 3))) (dTup (aCons (dVar 2) aNil)) [2, 3])))) (sRet (dC (.bl false))) sNext) t_law_longer_right_s2)
def t_law_longer_right : DTS :=
  (sSeq (sIf (tOr' (tBool (dNe (dCall sp_come_round (aCons (dVar 0) (aCons (dC (.int 1)) aNil))) (dVar 1))) (tBool (dNe (dCall sp_stays_of (aCons (dVar 0) aNil)) (dVar 1)))) (sRet (dC (.bl false))) sNext) t_law_longer_right_s1)
def sp_law_longer_right : DSp := fun ds m R _ => ∃ (T : List Kn), ds = [mapD T, mapD (noughtsK (stayR T))] ∧ RnS T 1 ∧ T.length ≤ 1000 ∧ BdK 650 T ∧ leastK T = T ∧ R (.bl true) m
theorem len_law_longer_right : ∀ ds m R E, sp_law_longer_right ds m R E → ds.length = (["longer", "told"] : List Str).length := by
  rintro ds m R E ⟨a, rfl, _⟩; rfl
theorem rd_law_longer_right : ∀ ds m R E, sp_law_longer_right ds m R E → t_law_longer_right (dends R) (dstart 4 ds) m := by
  rintro ds m R E ⟨T, rfl, h, hl, hb, hm, hR⟩
  show t_law_longer_right (dends R) [some (mapD T), some (mapD (noughtsK (stayR T))), none, none] m
  have hsl := sizeLine_eq
  have g := h.good
  have t1 : turnK T 1 = T := by rw [turnK_one g, hm]
  have hn := h.nt
  have hpl := noughts_len (stayR T)
  have hsl2 : (stayR T).length = T.length := by unfold stayR; rw [List.length_map]
  rw [t1] at hn
  wide_line with t_law_longer_right
  refine ⟨T, 1, rfl, h, ?_⟩
  rw [t1]
  refine enc_map.gNe ?_
  rw [decide_eq_true rfl]
  try wide_line
  refine ⟨T, _, rfl, .inl rfl, by have := g.len; omega, hl, hb, hn, ?_⟩
  refine enc_map.gNe ?_
  rw [decide_eq_true rfl]
  wide_line with t_law_longer_right_s1
  refine ⟨T, 1, rfl, by omega, h, ?_⟩
  rw [rds_one t1]
  try wide_line
  refine lc_map knD (fun p => decide (p.1 = p.2)) (fun p => rowD [p.1]) trivial _ _ (by simp; omega) ?_ ?_
  · intro x hx acc W hacc hW
    try wide_line
    refine enc_fr.gEq ?_
    try wide_line
    by_cases c : x.1 = x.2
    · rw [if_pos (by simpa using c)] at hW
      rw [if_pos (by simpa using c)]
      exact ⟨hacc, hW⟩
    · rw [if_neg (by simpa using c)] at hW
      rw [if_neg (by simpa using c)]
      exact hW
  have e : D.tup ([] ++ ((noughtsK (stayR T)).filter fun p => decide (p.1 = p.2)).map fun p => rowD [p.1]) = rdD ((singL (noughtsK (stayR T))).map fun x => [x]) := by
    unfold rdD singL
    rw [List.nil_append, List.map_map, List.map_map]
    rfl
  rw [e]
  refine enc_rd.gNe ?_
  rw [decide_eq_true rfl]
  wide_line with t_law_longer_right_s2
  refine ⟨T, .inl rfl, g.len, by omega, g.inc, hb.mono (by decide), ?_⟩
  rw [hm]
  refine enc_map.gEq ?_
  rw [decide_eq_true rfl]
  try wide_line
  refine ⟨T, 1, rfl, h.toTurS, ?_⟩
  rw [t1]
  refine enc_map.gEq ?_
  rw [decide_eq_true rfl]
  exact fin_of hR

/-! ### law_many -/
def t_law_many_s4 : DTS :=
  (sSet 2 (dPlus (dVar 2) (dC (.int 1))))
def t_law_many_b3 : DTS :=
  (sSeq (sSet 3 (dMul (dVar 3) (dVar 1))) t_law_many_s4)
def t_law_many_s5 : DTS :=
  (sRet (dPlus (dC (.int 1)) (dCall sp_law_draw (aCons (dVar 0) (aCons (dVar 2) aNil)))))
def t_law_many_s2 : DTS :=
  (sSeq (sWhile (tAnd' (tBool (dLt (dVar 2) (dC (.int 7)))) (tBool (dLeA (dMul (dVar 3) (dVar 1)) (dC (.int 130))))) t_law_many_b3) t_law_many_s5)
def t_law_many_s1 : DTS :=
  (sSeq (sSet 3 (dVar 1)) t_law_many_s2)
def t_law_many : DTS :=
  (sSeq (sSet 2 (dC (.int 1))) t_law_many_s1)
def sp_law_many : DSp := fun ds m R _ => ∃ (a : Addr) (p : Nat), ds = [.ref a, .int p] ∧ isSeed (m a) ∧ 1 ≤ p ∧ p ≤ 130 ∧ ∀ (n : Nat) (m' : Mu), 1 ≤ n → n ≤ 7 → p ^ n ≤ 130 → isSeed (m' a) → Ext a m m' → R (.int n) m'
theorem len_law_many : ∀ ds m R E, sp_law_many ds m R E → ds.length = (["seed", "pieces"] : List Str).length := by
  rintro ds m R E ⟨a, b, rfl, _⟩; rfl
theorem rd_law_many : ∀ ds m R E, sp_law_many ds m R E → t_law_many (dends R) (dstart 4 ds) m := by
  rintro ds m R E ⟨a, p, rfl, hs, h1, hp, hR⟩
  show t_law_many (dends R) [some (.ref a), some (.int p), none, none] m
  have out : ∀ most : Nat, 1 ≤ most → most ≤ 7 → p ^ most ≤ 130 → t_law_many_s5 (dends R) [some (.ref a), some (.int p), some (.int most), some (.int ((p ^ most : Nat) : Int))] m := by
    intro most h1 h7 hpw
    wide_line with t_law_many_s5
    refine draw_ext hs (by omega) (by omega) fun v m' hs' hx v0 v1 => ?_
    obtain ⟨n, rfl⟩ : ∃ n : Nat, v = n := ⟨v.toNat, by omega⟩
    have e : (1 + (n : Int)) = ((n + 1 : Nat) : Int) := by omega
    wide_line with e
    exact fin_of (hR (n + 1) m' (by omega) (by omega) (Nat.le_trans (Nat.pow_le_pow_right (by omega) (by omega)) hpw) hs' hx)
  wide_line with (t_law_many, t_law_many_s1, t_law_many_s2)
  refine while_ind (fun k r m' => ∃ (most : Nat), k + most = 7 ∧ 1 ≤ most ∧ most ≤ 7 ∧ p ^ most ≤ 130 ∧ r = [some (.ref a), some (.int p), some (.int most), some (.int ((p ^ most : Nat) : Int))] ∧ m' = m) ?_ 6 _ _ ⟨1, by omega, by omega, by omega, by rw [Nat.pow_one]; omega, by rw [Nat.pow_one]; rfl, rfl⟩
  rintro k nx hnx r m' ⟨most, hk, h1', h7, hpw, rfl, rfl⟩
  try wide_line
  by_cases c : most < 7
  · rw [if_pos (by omega)]
    have hm : CMulA ((p ^ most : Nat) : Int) (p : Int) := mul_l (by omega) (by omega)
    refine ⟨hm, ?_⟩
    by_cases d : p ^ (most + 1) ≤ 130
    · have e : ((p ^ most : Nat) : Int) * (p : Int) = ((p ^ (most + 1) : Nat) : Int) := by rw [Nat.pow_succ]; exact (Int.natCast_mul _ _).symm
      rw [e, if_pos (by omega)]
      wide_line with (t_law_many_b3, t_law_many_s4)
      refine ⟨hm, ?_⟩
      rw [e]
      exact hnx (k - 1) _ _ (by omega) ⟨most + 1, by omega, by omega, by omega, d, rfl, rfl⟩
    · have e : ((p ^ most : Nat) : Int) * (p : Int) = ((p ^ (most + 1) : Nat) : Int) := by rw [Nat.pow_succ]; exact (Int.natCast_mul _ _).symm
      rw [e, if_neg (by omega)]
      exact out most h1' h7 hpw
  · rw [if_neg (by omega)]
    exact out most h1' h7 hpw

/-! ### law_at -/
def t_law_at_s2 : DTS :=
  (sRet (dCall sp_law_fraction (aCons (dSub (dCall sp_law_draw (aCons (dVar 0) (aCons (dC (.int 19999)) aNil))) (dC (.int 9999))) (aCons (dPlus (dC (.int 1)) (dCall sp_law_draw (aCons (dVar 0) (aCons (dIxN (nLst (aCons (dC (.int 99)) (aCons (dC (.int 9999)) aNil))) (dCall sp_law_draw (aCons (dVar 0) (aCons (dC (.int 2)) aNil)))) aNil)))) aNil))))
def t_law_at_s1 : DTS :=
  (sSeq (sIf (tBool (dEq (dVar 1) (dC (.int 1)))) (sRet (dCall sp_law_fraction (aCons (dSub (dCall sp_law_draw (aCons (dVar 0) (aCons (dC (.int 25)) aNil))) (dC (.int 12))) (aCons (dPlus (dC (.int 1)) (dCall sp_law_draw (aCons (dVar 0) (aCons (dC (.int 6)) aNil)))) aNil)))) sNext) t_law_at_s2)
def t_law_at : DTS :=
  (sSeq (sIf (tBool (dEq (dVar 1) (dC (.int 0)))) (sRet (dTup (aCons (dSub (dCall sp_law_draw (aCons (dVar 0) (aCons (dC (.int 13)) aNil))) (dC (.int 6))) (aCons (dC (.int 1)) aNil)))) sNext) t_law_at_s1)
def sp_law_at : DSp := fun ds m R _ => ∃ (a : Addr) (way : Int), ds = [.ref a, .int way] ∧ isSeed (m a) ∧ 0 ≤ way ∧ way ≤ 2 ∧ ∀ (q : Rat) (m' : Mu), Bd 14 q → (way < 2 → Bd 4 q) → isSeed (m' a) → Ext a m m' → R (fr q) m'
theorem len_law_at : ∀ ds m R E, sp_law_at ds m R E → ds.length = (["seed", "way"] : List Str).length := by
  rintro ds m R E ⟨a, b, rfl, _⟩; rfl
theorem rd_law_at : ∀ ds m R E, sp_law_at ds m R E → t_law_at (dends R) (dstart 2 ds) m := by
  rintro ds m R E ⟨a, way, rfl, hs, w0, w2, hR⟩
  show t_law_at (dends R) [some (.ref a), some (.int way)] m
  wide_line with t_law_at
  by_cases c0 : way = 0
  · rw [if_pos c0]
    refine draw_ext hs (by decide) (by decide) fun v m1 hs hx v0 v1 => ?_
    try wide_line
    have e : D.tup [D.int (v - 6), D.int 1] = fr ((v - 6 : Int) : Rat) := rfl
    rw [e]
    have b4 : Bd 4 ((v - 6 : Int) : Rat) := ⟨by show (v - 6).natAbs < 16; omega, by show 1 < 16; decide⟩
    exact fin_of (hR _ _ (b4.mono (by decide)) (fun _ => b4) hs hx)
  · rw [if_neg c0]
    wide_line with t_law_at_s1
    by_cases c1 : way = 1
    · rw [if_pos c1]
      refine draw_ext hs (by decide) (by decide) fun v m1 hs hx v0 v1 => ?_
      try wide_line
      refine draw_ext hs (by decide) (by decide) fun v2 m2 hs hx2 v20 v21 => ?_
      try wide_line
      refine ⟨_, _, rfl, by omega, by have : (1 + v2).natAbs < 2 ^ 4 := (by omega); exact Nat.lt_of_lt_of_le this (Nat.pow_le_pow_right (by decide) (by decide)), ?_⟩
      have b4 : Bd 4 (((v - 12 : Int) : Rat) / ((1 + v2 : Int) : Rat)) := Bd.of_div (by omega) (by omega) (by omega)
      exact fin_of (hR _ _ (b4.mono (by decide)) (fun _ => b4) hs (hx.trans hx2))
    · rw [if_neg c1]
      wide_line with t_law_at_s2
      refine draw_ext hs (by decide) (by decide) fun v m1 hs hx v0 v1 => ?_
      try wide_line
      refine draw_ext hs (by decide) (by decide) fun v2 m2 hs hx2 v20 v21 => ?_
      try wide_line
      refine at_ints (ns := [99, 9999]) v20 v21 fun z hz => ?_
      have hz' : z = 99 ∨ z = 9999 := by simpa using hz
      try wide_line
      refine draw_ext hs (by omega) (by omega) fun v3 m3 hs hx3 v30 v31 => ?_
      try wide_line
      refine ⟨_, _, rfl, by omega, by have : (1 + v3).natAbs < 2 ^ 14 := (by omega); exact Nat.lt_of_lt_of_le this (Nat.pow_le_pow_right (by decide) (by decide)), ?_⟩
      exact fin_of (hR _ _ (Bd.of_div (by omega) (by omega) (by omega)) (fun h => by omega) hs ((hx.trans hx2).trans hx3))

/-! ### law_side -/
def t_law_side_s1 : DTS :=
  (sRet (dSub (dB gInt (aCons (dGt (dVar 2) (dC (.int 0))) aNil)) (dB gInt (aCons (dLt (dVar 2) (dC (.int 0))) aNil))))
def t_law_side : DTS :=
  (sSeq (sSet 2 (dSub (dMul (dIx (dVar 0) (dC (.int 0))) (dIx (dVar 1) (dC (.int 1)))) (dMul (dIx (dVar 1) (dC (.int 0))) (dIx (dVar 0) (dC (.int 1)))))) t_law_side_s1)
abbrev sp_law_side : DSp := spSide
theorem len_law_side : ∀ ds m R E, sp_law_side ds m R E → ds.length = (["one", "other"] : List Str).length := len_spSide
theorem rd_law_side : ∀ ds m R E, sp_law_side ds m R E → t_law_side (dends R) (dstart 3 ds) m := by
  rintro ds m R E ⟨p, q, rfl, hp, hq, hR⟩
  show t_law_side (dends R) [some (fr p), some (fr q), none] m
  wide_open with (t_law_side, t_law_side_s1, fr)
  refine ⟨mulW hp.1 hq.d (by decide), mulW hq.1 hp.d (by decide), ?_⟩
  have e : ((if 0 < p.num * (q.den : Int) - q.num * (p.den : Int) then (1 : Int) else 0) - if p.num * (q.den : Int) - q.num * (p.den : Int) < 0 then (1 : Int) else 0) = sgQ p q := by
    rw [← sg_num]
  rw [e]
  exact fin_of hR

/-! ### law_put_at -/
def t_law_put_at_s2 : DTS :=
  (sIf (tBool (dLeA (dVar 3) (dC (.int 0)))) (sRet (dPlus (dNew (nCatNN (nCut (dVar 0) oNone (oSome (dVar 2))) (nRep (nLst (aCons (dVar 1) aNil)) (dB gInt (aCons (dNe (dVar 3) (dC (.int 0))) aNil))))) (dCut (dVar 0) (oSome (dVar 2)) oNone))) sNext)
def t_law_put_at_b1 : DTS :=
  (sSeq (sSet 3 (dCall sp_law_side (aCons (dVar 1) (aCons (dIx (dVar 0) (dVar 2)) aNil)))) t_law_put_at_s2)
def t_law_put_at_s3 : DTS :=
  (sRet (dNew (nCatEN (dVar 0) (nLst (aCons (dVar 1) aNil)))))
def t_law_put_at : DTS :=
  (sSeq (sFor (iRng1' (dB gLen (aCons (dVar 0) aNil))) (gName' 2) t_law_put_at_b1) t_law_put_at_s3)
def sp_law_put_at : DSp := fun ds m R _ => ∃ (p : Addr) (S : List Rat) (x : Rat), ds = [.ref p, fr x] ∧ m p = some (.lst (S.map fr)) ∧ Ris S ∧ S.length ≤ 1000 ∧ (∀ y ∈ S, Bd 4000 y) ∧ Bd 4000 x ∧ ∀ (f : Addr), m f = none → R (.ref f) (mput m f (.lst ((insR x S).map fr)))
theorem len_law_put_at : ∀ ds m R E, sp_law_put_at ds m R E → ds.length = (["ats", "one"] : List Str).length := by
  rintro ds m R E ⟨a, b, c, rfl, _⟩; rfl
theorem insA_split {x : Rat} : ∀ {l : List Rat} {n : Nat}, n ≤ l.length → (∀ i (h : i < l.length), i < n → l[i] < x) → (∀ (h : n < l.length), x < l[n]) → insR x l = l.take n ++ [x] ++ l.drop n
  | [], n, _, _, _ => by simp [insR]
  | y :: l, 0, _, _, h2 => by
    have := h2 (by simp)
    simp at this
    unfold insR
    rw [if_pos this]
    simp
  | y :: l, n + 1, hn, h1, h2 => by
    have hy : y < x := h1 0 (by simp) (by omega)
    have ih := insA_split (x := x) (l := l) (n := n) (by simpa using hn) (fun i h hi => h1 (i + 1) (by simpa using h) (by omega)) (fun h => h2 (by simpa using h))
    unfold insR
    rw [if_neg (by grind), if_neg (by grind), ih]
    simp
theorem insA_same {x : Rat} : ∀ {l : List Rat} {n : Nat} (h : n < l.length), (∀ i (h : i < l.length), i < n → l[i] < x) → l[n] = x → insR x l = l
  | [], n, h, _, _ => by simp at h
  | y :: l, 0, _, _, h2 => by
    simp at h2
    subst h2
    unfold insR
    rw [if_neg (by grind), if_pos rfl]
  | y :: l, n + 1, hn, h1, h2 => by
    have hy : y < x := h1 0 (by simp) (by omega)
    have ih := insA_same (x := x) (l := l) (n := n) (by simpa using hn) (fun i h hi => h1 (i + 1) (by simpa using h) (by omega)) (by simpa using h2)
    unfold insR
    rw [if_neg (by grind), if_neg (by grind), ih]
theorem rd_law_put_at : ∀ ds m R E, sp_law_put_at ds m R E → t_law_put_at (dends R) (dstart 4 ds) m := by
  rintro ds m R E ⟨p, S, x, rfl, hm, hr, hl, hb, bx, hR⟩
  show t_law_put_at (dends R) [some (.ref p), some (fr x), none, none] m
  have hsl := sizeLine_eq
  wide_line with (t_law_put_at, hm)
  refine ⟨by rw [List.length_map]; omega, ?_⟩
  rw [List.length_map, show ((S.length : Int)).toNat = S.length by omega]
  refine for_rng 0 S.length (fun j r m' => ∃ q2 q3, r = [some (.ref p), some (fr x), q2, q3] ∧ m' = m ∧ ∀ i (h : i < S.length), i < j → S[i] < x) ?_ ?_ _ _ ⟨_, _, rfl, rfl, fun i h hi => by omega⟩
  · rintro r m' ⟨q2, q3, rfl, rfl, h1⟩
    refine ⟨trivial, ?_⟩
    wide_line with (t_law_put_at_s3, hm)
    refine ⟨by simp; omega, fun f hf => ?_⟩
    have e := insA_split (x := x) (l := S) (n := S.length) (Nat.le_refl _) h1 (fun h => absurd h (by omega))
    have := hR f hf
    rw [e] at this
    simp only [List.take_length, List.drop_length, List.append_nil, List.map_append] at this
    exact fin_of this
  · rintro j hj nx hnx r m' ⟨q2, q3, rfl, rfl, h1⟩
    refine ⟨trivial, ?_⟩
    wide_line with (t_law_put_at_b1, hm)
    refine atK_of (n := j) (by omega) (by rw [List.getElem?_map, List.getElem?_eq_getElem hj]; rfl) ?_
    refine ⟨_, _, rfl, bx, hb _ (List.getElem_mem hj), ?_⟩
    have ej : (0 : Int) + (j : Int) = (j : Int) := by omega
    have hdr : cutD (S.map fr) (some (j : Int)) none = (S.drop j).map fr := by
      have := cutD_drop (f := fr) (xs := S) (k := (j : Int)) (by omega) (by omega)
      rw [this, Int.toNat_natCast]
    have htk : cutD (S.map fr) none (some (j : Int)) = (S.take j).map fr := by
      have := cutD_take (f := fr) (xs := S) (k := (j : Int)) (by omega)
      rw [this, Int.toNat_natCast]
    wide_line with (t_law_put_at_s2, hm)
    by_cases c : S[j] < x
    · rw [if_neg (by have := sg_pos.mpr c; omega)]
      refine hnx _ _ ⟨_, _, rfl, rfl, fun i h hi => ?_⟩
      by_cases e : i = j
      · subst e; exact c
      · exact h1 i h (by omega)
    · rw [if_pos (by have := mt sg_pos.mp c; omega), ej]
      have hf : ∀ (n : Int) (a b c : Addr) (o1 o2 : O) (L : List D), m' a = none → mput m' a o1 b = none → mput (mput m' a o1) b o2 c = none → L = (insR x S).map fr → fin R (.ref c) (mput (mput (mput m' a o1) b o2) c (.lst L)) := by
        intro n a b c o1 o2 L ha hb' hc eL
        have s2 : Sub m' (mput (mput m' a o1) b o2) := (Sub.new ha).trans (Sub.new hb')
        have hc' : m' c = none := by
          cases e : m' c with
          | none => rfl
          | some o => rw [s2 c o e] at hc; cases hc
        refine ⟨mput m' c (.lst L), fun z o hz => ?_, by rw [eL]; exact hR c hc'⟩
        by_cases e : z = c
        · subst e; rw [mput_same] at hz ⊢; exact hz
        · rw [mput_ne e] at hz ⊢; exact s2 z o hz
      by_cases c0 : x = S[j]
      · have e0 : sgQ x S[j] = 0 := sg_zero.mpr c0
        rw [if_neg (by rw [e0]; simp)]
        refine ⟨⟨by decide, by decide, by decide⟩, ?_, fun a ha => ?_⟩
        · rw [htk]; simp; omega
        have ma : p ≠ a := ne_of hm ha
        simp only [mput_ne ma, hm, ↓bK_bl, ↓lstK_lst, ↓intK_int, ↓optK_some, ↓tBool_, ↓dAndV_, ↓gI_, ↓gI0_, ↓gAdd_int, ↓gAdd_tup, ↓gAdd_ref, ↓gNeg_, ↓gIx_tup, ↓gIx_ref, ↓atK_0, ↓atK_1, ↓atK_2, ↓atK_3, ↓atK_last, ↓setK_0, ↓setK_2, ↓gLen_tup, ↓gLen_rl, ↓gLen_ref, ↓gTupleOf_ref, ↓seqK_tup, ↓seqK_ref, ↓nListOf_, ↓isLst_ref, ↓gAppend_, ↓refK_ref, ↓dExtN_, ↓gExt_, ↓gSetIx_, ↓itK_some, ↓iRow_, ↓rowIt_tup, ↓rowIt_rl, ↓iRng1_, ↓iRng2_, ↓iZip_, ↓gNil_, ↓gCons_, ↓gTup_, ↓gAbs_, ↓gMax2_, ↓gInt_bl, ↓gLe_int, ↓gEq_int, ↓gNe_int, ↓oNone_, ↓oSome_, ↓gStep_tup, ↓gCut_tup, ↓gCut_ref, ↓rowK_ref, ↓nCut_, ↓nRev_, ↓nCatEN_, ↓nRep_, ↓dIxN_, ↓sAug_, ↓gMax4_, ↓nZip_, ↓zK_tup, ↓zK_ref, ↓dVar_0, ↓dVar_1, ↓dVar_2, ↓dVar_3, ↓dVar_4, ↓dVar_5, ↓dVar_6, ↓dVar_7, ↓dVar_8, ↓dVar_9, ↓dVar_10, ↓dVar_11, ↓sz_0, ↓sz_1, ↓sz_2, ↓sz_3, ↓sz_4, ↓sz_5, ↓sz_6, ↓u_sSeq, ↓u_sNext, ↓u_sSet, ↓u_sSetN, ↓u_sAsg, ↓u_sIf, ↓u_sRet, ↓u_sDrop, ↓u_sPar, ↓u_sFor, ↓u_dC, ↓u_d2, ↓u_d1, ↓u_dTup, ↓u_dNew, ↓u_aNil, ↓u_aCons, ↓u_nLst, ↓u_tAnd', ↓u_tOr', ↓u_tNot', ↓u_gName', ↓u_dCall, ↓u_dB, ↓u_dTupN, ↓u_dM, ↓u_iNew, ↓u_nLc, ↓u_dCut, ↓u_nCutN, ↓u_nCatNN, ↓u_d2N, ↓u_dNN, ↓u_tYes', ↓u_dStep, ↓u_nSgn, List.set_cons_zero, List.set_cons_succ, dwipe, ite_true, ite_false, Bool.false_eq_true, Bool.true_eq_false, Bool.not_true, Bool.not_false, beq_self_eq_true, decide_eq_true_eq, Bool.not_eq_true', decide_eq_false_iff_not, mput_same, mput_put, dends, List.length_cons, List.length_nil, true_and, and_true, Nat.reduceAdd, Nat.reduceEqDiff, Int.reduceToNat, ↓x_fr0, ↓x_fr1, ↓x_kn0, ↓x_kn1, ↓x_map, ↓x_at0, ↓x_len, ↓x_row, ↓x_cut, ↓x_tup2]
        intro b hb'
        rw [htk] at hb'
        have ab : a ≠ b := ne_of mput_same hb'
        simp only [mput_ne ab, mput_same, ↓bK_bl, ↓lstK_lst, ↓intK_int, ↓optK_some, ↓tBool_, ↓dAndV_, ↓gI_, ↓gI0_, ↓gAdd_int, ↓gAdd_tup, ↓gAdd_ref, ↓gNeg_, ↓gIx_tup, ↓gIx_ref, ↓atK_0, ↓atK_1, ↓atK_2, ↓atK_3, ↓atK_last, ↓setK_0, ↓setK_2, ↓gLen_tup, ↓gLen_rl, ↓gLen_ref, ↓gTupleOf_ref, ↓seqK_tup, ↓seqK_ref, ↓nListOf_, ↓isLst_ref, ↓gAppend_, ↓refK_ref, ↓dExtN_, ↓gExt_, ↓gSetIx_, ↓itK_some, ↓iRow_, ↓rowIt_tup, ↓rowIt_rl, ↓iRng1_, ↓iRng2_, ↓iZip_, ↓gNil_, ↓gCons_, ↓gTup_, ↓gAbs_, ↓gMax2_, ↓gInt_bl, ↓gLe_int, ↓gEq_int, ↓gNe_int, ↓oNone_, ↓oSome_, ↓gStep_tup, ↓gCut_tup, ↓gCut_ref, ↓rowK_ref, ↓nCut_, ↓nRev_, ↓nCatEN_, ↓nRep_, ↓dIxN_, ↓sAug_, ↓gMax4_, ↓nZip_, ↓zK_tup, ↓zK_ref, ↓dVar_0, ↓dVar_1, ↓dVar_2, ↓dVar_3, ↓dVar_4, ↓dVar_5, ↓dVar_6, ↓dVar_7, ↓dVar_8, ↓dVar_9, ↓dVar_10, ↓dVar_11, ↓sz_0, ↓sz_1, ↓sz_2, ↓sz_3, ↓sz_4, ↓sz_5, ↓sz_6, ↓u_sSeq, ↓u_sNext, ↓u_sSet, ↓u_sSetN, ↓u_sAsg, ↓u_sIf, ↓u_sRet, ↓u_sDrop, ↓u_sPar, ↓u_sFor, ↓u_dC, ↓u_d2, ↓u_d1, ↓u_dTup, ↓u_dNew, ↓u_aNil, ↓u_aCons, ↓u_nLst, ↓u_tAnd', ↓u_tOr', ↓u_tNot', ↓u_gName', ↓u_dCall, ↓u_dB, ↓u_dTupN, ↓u_dM, ↓u_iNew, ↓u_nLc, ↓u_dCut, ↓u_nCutN, ↓u_nCatNN, ↓u_d2N, ↓u_dNN, ↓u_tYes', ↓u_dStep, ↓u_nSgn, List.set_cons_zero, List.set_cons_succ, dwipe, ite_true, ite_false, Bool.false_eq_true, Bool.true_eq_false, Bool.not_true, Bool.not_false, beq_self_eq_true, decide_eq_true_eq, Bool.not_eq_true', decide_eq_false_iff_not, mput_same, mput_put, dends, List.length_cons, List.length_nil, true_and, and_true, Nat.reduceAdd, Nat.reduceEqDiff, Int.reduceToNat, ↓x_fr0, ↓x_fr1, ↓x_kn0, ↓x_kn1, ↓x_map, ↓x_at0, ↓x_len, ↓x_row, ↓x_cut, ↓x_tup2]
        rw [htk, hdr]
        refine ⟨by simp; omega, fun c hc => ?_⟩
        refine hf 0 a b c _ _ _ ha hb' hc ?_
        rw [insA_same hj h1 c0.symm]
        simp
      · have lt : x < S[j] := by grind
        have e0 : ¬ sgQ x S[j] = 0 := fun e => c0 (sg_zero.mp e)
        rw [if_pos e0]
        refine ⟨⟨by decide, by decide, by rw [hsl]; decide⟩, ?_, fun a ha => ?_⟩
        · rw [htk]; simp; omega
        have ma : p ≠ a := ne_of hm ha
        simp only [mput_ne ma, hm, ↓bK_bl, ↓lstK_lst, ↓intK_int, ↓optK_some, ↓tBool_, ↓dAndV_, ↓gI_, ↓gI0_, ↓gAdd_int, ↓gAdd_tup, ↓gAdd_ref, ↓gNeg_, ↓gIx_tup, ↓gIx_ref, ↓atK_0, ↓atK_1, ↓atK_2, ↓atK_3, ↓atK_last, ↓setK_0, ↓setK_2, ↓gLen_tup, ↓gLen_rl, ↓gLen_ref, ↓gTupleOf_ref, ↓seqK_tup, ↓seqK_ref, ↓nListOf_, ↓isLst_ref, ↓gAppend_, ↓refK_ref, ↓dExtN_, ↓gExt_, ↓gSetIx_, ↓itK_some, ↓iRow_, ↓rowIt_tup, ↓rowIt_rl, ↓iRng1_, ↓iRng2_, ↓iZip_, ↓gNil_, ↓gCons_, ↓gTup_, ↓gAbs_, ↓gMax2_, ↓gInt_bl, ↓gLe_int, ↓gEq_int, ↓gNe_int, ↓oNone_, ↓oSome_, ↓gStep_tup, ↓gCut_tup, ↓gCut_ref, ↓rowK_ref, ↓nCut_, ↓nRev_, ↓nCatEN_, ↓nRep_, ↓dIxN_, ↓sAug_, ↓gMax4_, ↓nZip_, ↓zK_tup, ↓zK_ref, ↓dVar_0, ↓dVar_1, ↓dVar_2, ↓dVar_3, ↓dVar_4, ↓dVar_5, ↓dVar_6, ↓dVar_7, ↓dVar_8, ↓dVar_9, ↓dVar_10, ↓dVar_11, ↓sz_0, ↓sz_1, ↓sz_2, ↓sz_3, ↓sz_4, ↓sz_5, ↓sz_6, ↓u_sSeq, ↓u_sNext, ↓u_sSet, ↓u_sSetN, ↓u_sAsg, ↓u_sIf, ↓u_sRet, ↓u_sDrop, ↓u_sPar, ↓u_sFor, ↓u_dC, ↓u_d2, ↓u_d1, ↓u_dTup, ↓u_dNew, ↓u_aNil, ↓u_aCons, ↓u_nLst, ↓u_tAnd', ↓u_tOr', ↓u_tNot', ↓u_gName', ↓u_dCall, ↓u_dB, ↓u_dTupN, ↓u_dM, ↓u_iNew, ↓u_nLc, ↓u_dCut, ↓u_nCutN, ↓u_nCatNN, ↓u_d2N, ↓u_dNN, ↓u_tYes', ↓u_dStep, ↓u_nSgn, List.set_cons_zero, List.set_cons_succ, dwipe, ite_true, ite_false, Bool.false_eq_true, Bool.true_eq_false, Bool.not_true, Bool.not_false, beq_self_eq_true, decide_eq_true_eq, Bool.not_eq_true', decide_eq_false_iff_not, mput_same, mput_put, dends, List.length_cons, List.length_nil, true_and, and_true, Nat.reduceAdd, Nat.reduceEqDiff, Int.reduceToNat, ↓x_fr0, ↓x_fr1, ↓x_kn0, ↓x_kn1, ↓x_map, ↓x_at0, ↓x_len, ↓x_row, ↓x_cut, ↓x_tup2]
        intro b hb'
        rw [htk] at hb'
        have ab : a ≠ b := ne_of mput_same hb'
        simp only [mput_ne ab, mput_same, ↓bK_bl, ↓lstK_lst, ↓intK_int, ↓optK_some, ↓tBool_, ↓dAndV_, ↓gI_, ↓gI0_, ↓gAdd_int, ↓gAdd_tup, ↓gAdd_ref, ↓gNeg_, ↓gIx_tup, ↓gIx_ref, ↓atK_0, ↓atK_1, ↓atK_2, ↓atK_3, ↓atK_last, ↓setK_0, ↓setK_2, ↓gLen_tup, ↓gLen_rl, ↓gLen_ref, ↓gTupleOf_ref, ↓seqK_tup, ↓seqK_ref, ↓nListOf_, ↓isLst_ref, ↓gAppend_, ↓refK_ref, ↓dExtN_, ↓gExt_, ↓gSetIx_, ↓itK_some, ↓iRow_, ↓rowIt_tup, ↓rowIt_rl, ↓iRng1_, ↓iRng2_, ↓iZip_, ↓gNil_, ↓gCons_, ↓gTup_, ↓gAbs_, ↓gMax2_, ↓gInt_bl, ↓gLe_int, ↓gEq_int, ↓gNe_int, ↓oNone_, ↓oSome_, ↓gStep_tup, ↓gCut_tup, ↓gCut_ref, ↓rowK_ref, ↓nCut_, ↓nRev_, ↓nCatEN_, ↓nRep_, ↓dIxN_, ↓sAug_, ↓gMax4_, ↓nZip_, ↓zK_tup, ↓zK_ref, ↓dVar_0, ↓dVar_1, ↓dVar_2, ↓dVar_3, ↓dVar_4, ↓dVar_5, ↓dVar_6, ↓dVar_7, ↓dVar_8, ↓dVar_9, ↓dVar_10, ↓dVar_11, ↓sz_0, ↓sz_1, ↓sz_2, ↓sz_3, ↓sz_4, ↓sz_5, ↓sz_6, ↓u_sSeq, ↓u_sNext, ↓u_sSet, ↓u_sSetN, ↓u_sAsg, ↓u_sIf, ↓u_sRet, ↓u_sDrop, ↓u_sPar, ↓u_sFor, ↓u_dC, ↓u_d2, ↓u_d1, ↓u_dTup, ↓u_dNew, ↓u_aNil, ↓u_aCons, ↓u_nLst, ↓u_tAnd', ↓u_tOr', ↓u_tNot', ↓u_gName', ↓u_dCall, ↓u_dB, ↓u_dTupN, ↓u_dM, ↓u_iNew, ↓u_nLc, ↓u_dCut, ↓u_nCutN, ↓u_nCatNN, ↓u_d2N, ↓u_dNN, ↓u_tYes', ↓u_dStep, ↓u_nSgn, List.set_cons_zero, List.set_cons_succ, dwipe, ite_true, ite_false, Bool.false_eq_true, Bool.true_eq_false, Bool.not_true, Bool.not_false, beq_self_eq_true, decide_eq_true_eq, Bool.not_eq_true', decide_eq_false_iff_not, mput_same, mput_put, dends, List.length_cons, List.length_nil, true_and, and_true, Nat.reduceAdd, Nat.reduceEqDiff, Int.reduceToNat, ↓x_fr0, ↓x_fr1, ↓x_kn0, ↓x_kn1, ↓x_map, ↓x_at0, ↓x_len, ↓x_row, ↓x_cut, ↓x_tup2]
        rw [htk, hdr]
        refine ⟨by simp; omega, fun c hc => ?_⟩
        refine hf 0 a b c _ _ _ ha hb' hc ?_
        rw [insA_split (x := x) (l := S) (n := j) (by omega) h1 (fun _ => lt)]
        simp

/-! ### law_map -/
def t_law_map_b3 : DTS :=
  (sSet 3 (dCall sp_law_put_at (aCons (dVar 3) (aCons (dCall sp_law_at (aCons (dVar 0) (aCons (dVar 2) aNil))) aNil))))
def t_law_map_s15 : DTS :=
  (sDrop (dM gAppend (dVar 6) (aCons (dTup (aCons (dVar 7) (aCons (dVar 11) aNil))) aNil)))
def t_law_map_s14 : DTS :=
  (sSeq (sIf (tOr' (tBool (dLt (dCall sp_law_side (aCons (dVar 11) (aCons (dIx (dVar 3) (dC (.int 0))) aNil))) (dC (.int 0)))) (tBool (dGt (dCall sp_law_side (aCons (dVar 11) (aCons (dIx (dVar 3) (dNeg (dC (.int 1)))) aNil))) (dC (.int 0))))) (sSet 11 (dIx (dVar 3) (dCall sp_law_draw (aCons (dVar 0) (aCons (dB gLen (aCons (dVar 3) aNil)) aNil))))) sNext) t_law_map_s15)
def t_law_map_s13 : DTS :=
  (sSeq (sIf (tAnd' (tBool (dEq (dVar 5) (dC (.int 3)))) (tAnd' (tBool (dLt (dVar 2) (dC (.int 2)))) (tBool (dGt (dCall sp_law_draw (aCons (dVar 0) (aCons (dC (.int 3)) aNil))) (dC (.int 0)))))) (sSet 11 (dCall sp_law_less (aCons (dCall sp_law_plus (aCons (dIx (dVar 3) (dC (.int 0))) (aCons (dIx (dVar 3) (dNeg (dC (.int 1)))) aNil))) (aCons (dVar 7) aNil)))) sNext) t_law_map_s14)
def t_law_map_s12 : DTS :=
  (sSeq (sSet 11 (dIx (dVar 9) (dVar 10))) t_law_map_s13)
def t_law_map_s11 : DTS :=
  (sSeq (sSet 10 (dIxN (nLst (aCons (dC (.int 0)) (aCons (dPlus (dC (.int 3)) (dMod (dB gLen (aCons (dVar 6) aNil)) (dC (.int 2)))) (aCons (dB gInt (aCons (dGt (dCall sp_law_draw (aCons (dVar 0) (aCons (dC (.int 4)) aNil))) (dC (.int 0))) aNil)) (aCons (dCall sp_law_draw (aCons (dVar 0) (aCons (dC (.int 6)) aNil))) (aCons (dCall sp_law_draw (aCons (dVar 0) (aCons (dC (.int 6)) aNil))) aNil)))))) (dVar 5))) t_law_map_s12)
def t_law_map_s10 : DTS :=
  (sSeq (sSetN 9 (nLst (aCons (dIx (dVar 3) (dCall sp_law_draw (aCons (dVar 0) (aCons (dB gLen (aCons (dVar 3) aNil)) aNil)))) (aCons (dVar 7) (aCons (dVar 8) (aCons (dIx (dVar 3) (dC (.int 0))) (aCons (dIx (dVar 3) (dNeg (dC (.int 1)))) (aCons (dCall sp_law_at (aCons (dVar 0) (aCons (dVar 2) aNil))) aNil)))))))) t_law_map_s11)
def t_law_map_b9 : DTS :=
  (sSeq (sSet 8 (dIx (dIxN (nCatEN (dVar 6) (nLst (aCons (dTup (aCons (dVar 7) (aCons (dVar 7) aNil))) aNil))) (dSub (dNeg (dC (.int 1))) (dB gInt (aCons (d2N (gEqN true) (dVar 6) (nLst aNil)) aNil)))) (dC (.int 1)))) t_law_map_s10)
def t_law_map_s16 : DTS :=
  (sRet (dB gTupleOf (aCons (dVar 6) aNil)))
def t_law_map_s8 : DTS :=
  (sSeq (sFor (iRow (dVar 3)) (gName' 7) t_law_map_b9) t_law_map_s16)
def t_law_map_s7 : DTS :=
  (sSeq (sSetN 6 (nLst aNil)) t_law_map_s8)
def t_law_map_s6 : DTS :=
  (sSeq (sSet 5 (dCall sp_law_draw (aCons (dVar 0) (aCons (dC (.int 5)) aNil)))) t_law_map_s7)
def t_law_map_s5 : DTS :=
  (sSeq (sIf (tBool (dLt (dB gLen (aCons (dVar 3) aNil)) (dC (.int 2)))) (sSetN 3 (nLst (aCons (dTup (aCons (dNeg (dC (.int 3))) (aCons (dC (.int 1)) aNil))) (aCons (dTup (aCons (dC (.int 5)) (aCons (dC (.int 1)) aNil))) aNil)))) sNext) t_law_map_s6)
def t_law_map_s4 : DTS :=
  (sSeq (sSet 3 (dCut (dVar 3) oNone (oSome (dVar 1)))) t_law_map_s5)
def t_law_map_s2 : DTS :=
  (sSeq (sFor (iRng1' (dPlus (dC (.int 2)) (dCall sp_law_draw (aCons (dVar 0) (aCons (dPlus (dVar 1) (dC (.int 3))) aNil))))) (gName' 4) t_law_map_b3) t_law_map_s4)
def t_law_map_s1 : DTS :=
  (sSeq (sSetN 3 (nLst aNil)) t_law_map_s2)
def t_law_map : DTS :=
  (sSeq (sSet 2 (dCall sp_law_draw (aCons (dVar 0) (aCons (dC (.int 3)) aNil)))) t_law_map_s1)
def sp_law_map : DSp := fun ds m R _ => ∃ (a : Addr) (most : Nat), ds = [.ref a, .int most] ∧ isSeed (m a) ∧ 2 ≤ most ∧ most ≤ 8 ∧ ∀ (ks : List Kn) (m' : Mu), MpA ks → ks.length ≤ most → isSeed (m' a) → Ext a m m' → R (mapD ks) m'
theorem len_law_map : ∀ ds m R E, sp_law_map ds m R E → ds.length = (["seed", "most"] : List Str).length := by
  rintro ds m R E ⟨a, b, rfl, _⟩; rfl
theorem at_m2m {l : List D} {x y : D} {k : D → Prop} (h : k x) : atK (l ++ ([x] ++ [y])) (-1 - 1) k := by
  have e : atI (l ++ ([x] ++ [y])) (-1 - 1) = some x := by
    unfold atI ixN
    simp
    rw [if_pos (by omega), Option.bind_some, show (-2 + ((l.length : Int) + 2)).toNat = l.length by omega]
    simp
  unfold atK
  rw [e]
  exact h
theorem rd_law_map : ∀ ds m R E, sp_law_map ds m R E → t_law_map (dends R) (dstart 12 ds) m := by
  rintro ds m R E ⟨a, most, rfl, hs, h2, h8, hR⟩
  show t_law_map (dends R) [some (.ref a), some (.int most), none, none, none, none, none, none, none, none, none, none] m
  have hsl := sizeLine_eq
  wide_line with t_law_map
  refine draw_ext hs (by decide) (by decide) fun way m1 hs hx w0 w1 => ?_
  wide_line with t_law_map_s1
  intro f0 hf0
  have f0a := seed_ne hs hf0
  wide_line with t_law_map_s2
  refine draw_ext (seed_put hs f0a) (by omega) (by omega) fun v m2 hs2 hx2 v0 v1 => ?_
  obtain ⟨n, en⟩ : ∃ n : Nat, 2 + v = (n : Int) := ⟨(2 + v).toNat, by omega⟩
  try wide_line
  rw [en]
  refine ⟨by omega, ?_⟩
  rw [Int.toNat_natCast]
  have hx0 : Ext a m m2 := (hx.free (hx.none f0a hf0)).trans hx2
  refine for_rng 0 n (fun j r m' => ∃ (b : Addr) (S : List Rat) (q4 : Option D), r = [some (.ref a), some (.int most), some (.int way), some (.ref b), q4, none, none, none, none, none, none, none] ∧ m' b = some (.lst (S.map fr)) ∧ b ≠ a ∧ Ris S ∧ S.length ≤ j ∧ (∀ x ∈ S, Bd 14 x ∧ (way < 2 → Bd 4 x)) ∧ isSeed (m' a) ∧ Ext a m m') ?_ ?_ _ _ ⟨f0, [], _, rfl, hx2.get f0a mput_same, f0a, .nil, Nat.le_refl _, by simp, hs2, hx0⟩
  · rintro r m' ⟨b, S, q4, rfl, hm, ba, hr, hl, hb, hs, hx⟩
    refine ⟨trivial, ?_⟩
    wide_line with (t_law_map_s4, hm)
    intro c hc
    have ca := seed_ne hs hc
    have ec : cutD (S.map fr) none (some (most : Int)) = (S.take most).map fr := by
      rw [cutD_take (by omega), Int.toNat_natCast]
    rw [ec]
    have rest : ∀ (d : Addr) (S : List Rat) (m' : Mu), m' d = some (.lst (S.map fr)) → d ≠ a → Ris S → 2 ≤ S.length → S.length ≤ most → (∀ x ∈ S, Bd 14 x ∧ (way < 2 → Bd 4 x)) → isSeed (m' a) → Ext a m m' → t_law_map_s6 (dends R) [some (.ref a), some (.int most), some (.int way), some (.ref d), q4, none, none, none, none, none, none, none] m' := by
      intro d S m' hm da hr l2 l8 hb hs hx
      obtain ⟨L, e0⟩ : ∃ L, S.head? = some L := by
        cases S with
        | nil => simp at l2
        | cons z zs => exact ⟨z, rfl⟩
      obtain ⟨U, eL⟩ : ∃ U, S.getLast? = some U := by
        cases h : S.getLast? with
        | none => rw [List.getLast?_eq_none_iff] at h; rw [h] at l2; simp at l2
        | some z => exact ⟨z, rfl⟩
      have g0 : (S.map fr)[0]? = some (fr L) := by rw [List.getElem?_map, ← List.head?_eq_getElem?, e0]; rfl
      have gL : (S.map fr).getLast? = some (fr U) := by rw [List.getLast?_map, eL]; rfl
      have mL : L ∈ S := List.mem_of_head? e0
      have mU : U ∈ S := List.mem_of_getLast? eL
      have rng : ∀ z ∈ S, L ≤ z ∧ z ≤ U := by
        intro z hz
        constructor
        · cases S with
          | nil => simp at hz
          | cons y ys =>
            simp at e0
            subst e0
            rcases List.mem_cons.mp hz with rfl | hz
            · exact Rat.le_refl
            · exact Rat.le_of_lt ((List.pairwise_cons.mp hr).1 z hz)
        · obtain ⟨ys, rfl⟩ := List.getLast?_eq_some_iff.mp eL
          rcases List.mem_append.mp hz with hz | hz
          · exact Rat.le_of_lt ((List.pairwise_append.mp hr).2.2 z hz U (by simp))
          · simp at hz
            rw [hz]; exact Rat.le_refl
      wide_line with t_law_map_s6
      refine draw_ext hs (by decide) (by decide) fun mood m1 hs hx1 o0 o1 => ?_
      have hm := hx1.get da hm
      have hx := hx.trans hx1
      wide_line with t_law_map_s7
      intro kn hkn
      have kna := seed_ne hs hkn
      have mkn : m kn = none := hx.none kna hkn
      have dkn : d ≠ kn := ne_of hm hkn
      have hm5 : mput m1 kn (.lst []) d = some (.lst (S.map fr)) := by rw [mput_ne dkn]; exact hm
      simp only [t_law_map_s8, rowIt_lst hm5, ↓bK_bl, ↓lstK_lst, ↓intK_int, ↓optK_some, ↓tBool_, ↓dAndV_, ↓gI_, ↓gI0_, ↓gAdd_int, ↓gAdd_tup, ↓gAdd_ref, ↓gNeg_, ↓gIx_tup, ↓gIx_ref, ↓atK_0, ↓atK_1, ↓atK_2, ↓atK_3, ↓atK_last, ↓setK_0, ↓setK_2, ↓gLen_tup, ↓gLen_rl, ↓gLen_ref, ↓gTupleOf_ref, ↓seqK_tup, ↓seqK_ref, ↓nListOf_, ↓isLst_ref, ↓gAppend_, ↓refK_ref, ↓dExtN_, ↓gExt_, ↓gSetIx_, ↓itK_some, ↓iRow_, ↓rowIt_tup, ↓rowIt_rl, ↓iRng1_, ↓iRng2_, ↓iZip_, ↓gNil_, ↓gCons_, ↓gTup_, ↓gAbs_, ↓gMax2_, ↓gInt_bl, ↓gLe_int, ↓gEq_int, ↓gNe_int, ↓oNone_, ↓oSome_, ↓gStep_tup, ↓gCut_tup, ↓gCut_ref, ↓rowK_ref, ↓nCut_, ↓nRev_, ↓nCatEN_, ↓nRep_, ↓dIxN_, ↓sAug_, ↓gMax4_, ↓nZip_, ↓zK_tup, ↓zK_ref, ↓dVar_0, ↓dVar_1, ↓dVar_2, ↓dVar_3, ↓dVar_4, ↓dVar_5, ↓dVar_6, ↓dVar_7, ↓dVar_8, ↓dVar_9, ↓dVar_10, ↓dVar_11, ↓sz_0, ↓sz_1, ↓sz_2, ↓sz_3, ↓sz_4, ↓sz_5, ↓sz_6, ↓u_sSeq, ↓u_sNext, ↓u_sSet, ↓u_sSetN, ↓u_sAsg, ↓u_sIf, ↓u_sRet, ↓u_sDrop, ↓u_sPar, ↓u_sFor, ↓u_dC, ↓u_d2, ↓u_d1, ↓u_dTup, ↓u_dNew, ↓u_aNil, ↓u_aCons, ↓u_nLst, ↓u_tAnd', ↓u_tOr', ↓u_tNot', ↓u_gName', ↓u_dCall, ↓u_dB, ↓u_dTupN, ↓u_dM, ↓u_iNew, ↓u_nLc, ↓u_dCut, ↓u_nCutN, ↓u_nCatNN, ↓u_d2N, ↓u_dNN, ↓u_tYes', ↓u_dStep, ↓u_nSgn, List.set_cons_zero, List.set_cons_succ, dwipe, ite_true, ite_false, Bool.false_eq_true, Bool.true_eq_false, Bool.not_true, Bool.not_false, beq_self_eq_true, decide_eq_true_eq, Bool.not_eq_true', decide_eq_false_iff_not, mput_same, mput_put, dends, List.length_cons, List.length_nil, true_and, and_true, Nat.reduceAdd, Nat.reduceEqDiff, Int.reduceToNat, ↓x_fr0, ↓x_fr1, ↓x_kn0, ↓x_kn1, ↓x_map, ↓x_at0, ↓x_len, ↓x_row, ↓x_cut, ↓x_tup2]
      refine for_ind fr (fun zs r m' => ∃ (don : List Rat) (ks : List Kn) (q7 q8 q9 q10 q11 : Option D), S = don ++ zs ∧ r = [some (.ref a), some (.int most), some (.int way), some (.ref d), q4, some (.int mood), some (.ref kn), q7, q8, q9, q10, q11] ∧ m' d = some (.lst (S.map fr)) ∧ m' kn = some (.lst (ks.map knD)) ∧ isSeed (m' a) ∧ Ext a m m' ∧ ks.map (·.1) = don ∧ (∀ k ∈ ks, Bd 14 k.2 ∧ L ≤ k.2 ∧ k.2 ≤ U)) ?_ ?_ S _ _ ⟨[], [], _, _, _, _, _, rfl, rfl, hm5, mput_same, seed_put hs kna, hx.free mkn, rfl, by simp⟩
      · rintro r m' ⟨don, ks, q7, q8, q9, q10, q11, e, rfl, hm, hk, hs, hx, e1, e2⟩
        refine ⟨hm, ?_⟩
        wide_line with (t_law_map_s16, hk)
        rw [List.append_nil] at e
        subst e
        have hkl : ks.length = S.length := by rw [← e1]; simp
        exact fin_of (hR ks m' (mpA_mk hr l2 e1 e0 eL (fun x hx => (hb x hx).1) e2) (by omega) hs hx)
      · rintro z zs nx hnx r m' ⟨don, ks, q7, q8, q9, q10, q11, e, rfl, hm, hk, hs, hx, e1, e2⟩
        refine ⟨hm, ?_⟩
        have mz : z ∈ S := by rw [e]; simp
        have hkl : ks.length < S.length := by rw [← List.length_map (f := (·.1)) (as := ks), e1, e]; simp
        have h10 : ∀ ah : Rat, Bd 14 ah → t_law_map_s10 { nx := nx, rt := fin R, bk := t_law_map_s16 (dends R), ct := nx } [some (.ref a), some (.int most), some (.int way), some (.ref d), q4, some (.int mood), some (.ref kn), some (fr z), some (fr ah), q9, q10, q11] m' := by
          intro ah bah
          have pick : ∀ (m' : Mu) (R : DK), m' d = some (.lst (S.map fr)) → isSeed (m' a) → (∀ y m2, y ∈ S → m2 d = some (.lst (S.map fr)) → isSeed (m2 a) → Ext a m' m2 → R (fr y) m2) → sp_law_draw [.ref a, .int ((S.map fr).length : Nat)] m' (fun y m2 => gIx (.ref d) y m2 R) X0 := by
            intro m' R hm hs h
            rw [List.length_map]
            refine draw_ext hs (by omega) (by omega) fun v m2 hs2 hx2 v0 v1 => ?_
            rw [gIx_ref, hx2.get da hm, lstK_lst]
            have hv : v.toNat < S.length := by omega
            refine atK_of (n := v.toNat) (by omega) (by rw [List.getElem?_map, List.getElem?_eq_getElem hv]; rfl) ?_
            exact h _ _ (List.getElem_mem hv) (hx2.get da hm) hs2 hx2
          have h14 : ∀ (to : Rat) (m' : Mu) (q9 q10 : Option D), Bd 14 to → m' d = some (.lst (S.map fr)) → m' kn = some (.lst (ks.map knD)) → isSeed (m' a) → Ext a m m' → t_law_map_s14 { nx := nx, rt := fin R, bk := t_law_map_s16 (dends R), ct := nx } [some (.ref a), some (.int most), some (.int way), some (.ref d), q4, some (.int mood), some (.ref kn), some (fr z), some (fr ah), q9, q10, some (fr to)] m' := by
            intro to m' q9 q10 bt hm hk hs hx
            have h15 : ∀ (to : Rat) (m' : Mu), Bd 14 to → L ≤ to → to ≤ U → m' d = some (.lst (S.map fr)) → m' kn = some (.lst (ks.map knD)) → isSeed (m' a) → Ext a m m' → t_law_map_s15 { nx := nx, rt := fin R, bk := t_law_map_s16 (dends R), ct := nx } [some (.ref a), some (.int most), some (.int way), some (.ref d), q4, some (.int mood), some (.ref kn), some (fr z), some (fr ah), q9, q10, some (fr to)] m' := by
              intro to m' bt t1 t2 hm hk hs hx
              wide_line with (t_law_map_s15, hk)
              refine ⟨⟨_, rfl⟩, by rw [List.length_map]; omega, hnx _ _ ⟨don ++ [z], ks ++ [(z, to)], _, _, _, _, _, by simp [e], rfl, by rw [mput_ne dkn]; exact hm, ?_, seed_put hs kna, hx.free mkn, by rw [List.map_append, e1]; rfl, ?_⟩⟩
              · rw [mput_same]
                simp [knD]
              · intro k hk'
                rcases List.mem_append.mp hk' with h | h
                · exact e2 k h
                · simp at h
                  rw [h]
                  exact ⟨bt, t1, t2⟩
            have red : ∀ (m' : Mu), m' d = some (.lst (S.map fr)) → m' kn = some (.lst (ks.map knD)) → isSeed (m' a) → Ext a m m' → sp_law_draw [.ref a, .int ((S.map fr).length : Nat)] m' (fun y m2 => gIx (.ref d) y m2 fun x m1 => t_law_map_s15 { nx := nx, rt := fin R, bk := t_law_map_s16 (dends R), ct := nx } [some (.ref a), some (.int most), some (.int way), some (.ref d), q4, some (.int mood), some (.ref kn), some (fr z), some (fr ah), q9, q10, some x] m1) X0 := by
              intro m' hm hk hs hx
              refine pick m' _ hm hs fun y m2 my hm2 hs2 hx2 => ?_
              exact h15 y m2 (hb y my).1 (rng y my).1 (rng y my).2 hm2 (hx2.get kna hk) hs2 (hx.trans hx2)
            wide_line with (t_law_map_s14, hm)
            refine atK_of (n := 0) rfl g0 ?_
            refine ⟨_, _, rfl, bt.mono (by decide), (hb L mL).1.mono (by decide), ?_⟩
            try wide_line
            by_cases c1 : to < L
            · rw [if_pos (sg_neg.mpr c1)]
              wide_line with hm
              exact red m' hm hk hs hx
            · rw [if_neg (fun h => c1 (sg_neg.mp h))]
              wide_line with hm
              refine at_last gL ?_
              refine ⟨_, _, rfl, bt.mono (by decide), (hb U mU).1.mono (by decide), ?_⟩
              try wide_line
              by_cases c2 : U < to
              · rw [if_pos (sg_pos.mpr c2)]
                wide_line with hm
                exact red m' hm hk hs hx
              · rw [if_neg (fun h => c2 (sg_pos.mp h))]
                exact h15 to m' bt (by grind) (by grind) hm hk hs hx
          wide_line with (t_law_map_s10, hm)
          refine pick m' _ hm hs fun y m2 my hm2 hs2 hx2 => ?_
          wide_line with hm2
          refine atK_of (n := 0) rfl g0 ?_
          refine at_last gL ?_
          refine ⟨a, way, rfl, hs2, w0, by omega, fun w m3 bw _ hs3 hx3 => ?_⟩
          intro sm hsm
          have sma := seed_ne hs3 hsm
          have hm3 := hx3.get da hm2
          have hk3 := (hx2.trans hx3).get kna hk
          have dsm : d ≠ sm := ne_of hm3 hsm
          have ksm : kn ≠ sm := ne_of hk3 hsm
          have ecs : [fr y, fr z, fr ah, fr L, fr U, fr w] = [y, z, ah, L, U, w].map fr := rfl
          rw [ecs]
          have bcs : ∀ x ∈ [y, z, ah, L, U, w], Bd 14 x := by
            intro x hx
            simp only [List.mem_cons, List.not_mem_nil, or_false] at hx
            rcases hx with h | h | h | h | h | h <;> rw [h]
            · exact (hb y my).1
            · exact (hb z mz).1
            · exact bah
            · exact (hb L mL).1
            · exact (hb U mU).1
            · exact bw
          have hx4 := (hx.trans hx2).trans hx3
          have hx5 := hx4.free (o := .lst ([y, z, ah, L, U, w].map fr)) (hx4.none sma hsm)
          have hs5 := seed_put (o := .lst ([y, z, ah, L, U, w].map fr)) hs3 sma
          have hm5 : mput m3 sm (.lst ([y, z, ah, L, U, w].map fr)) d = some (.lst (S.map fr)) := by rw [mput_ne dsm]; exact hm3
          have hk5 : mput m3 sm (.lst ([y, z, ah, L, U, w].map fr)) kn = some (.lst (ks.map knD)) := by rw [mput_ne ksm]; exact hk3
          have hs6 : mput m3 sm (.lst ([y, z, ah, L, U, w].map fr)) sm = some (.lst ([y, z, ah, L, U, w].map fr)) := mput_same
          have hcl : [y, z, ah, L, U, w].length = 6 := rfl
          generalize [y, z, ah, L, U, w] = cs at bcs hx5 hs5 hm5 hk5 hs6 hcl ⊢
          generalize mput m3 sm (.lst (cs.map fr)) = m4 at hx5 hs5 hm5 hk5 hs6 ⊢
          wide_line with (t_law_map_s11, hk5)
          refine ⟨by decide, draw_ext hs5 (by decide) (by decide) fun v4 m5 hs7 hx7 v40 v41 => ?_⟩
          try wide_line
          refine draw_ext hs7 (by decide) (by decide) fun v5 m6 hs8 hx8 v50 v51 => ?_
          refine draw_ext hs8 (by decide) (by decide) fun v6 m7 hs9 hx9 v60 v61 => ?_
          have hxx := (hx7.trans hx8).trans hx9
          refine at_ints (ns := [0, 3 + ((ks.map knD).length : Int) % 2, if 0 < v4 then 1 else 0, v5, v6]) o0 (by simpa using o1) fun kd hkd => ?_
          have hkd' : 0 ≤ kd ∧ kd < 6 := by
            simp only [List.mem_cons, List.not_mem_nil, or_false] at hkd
            rcases hkd with h | h | h | h | h
            · omega
            · omega
            · rw [h]; split <;> omega
            · omega
            · omega
          have hm7 := hxx.get da hm5
          have hk7 := hxx.get kna hk5
          have hc7 := hxx.get sma hs6
          have hx10 := hx5.trans hxx
          wide_line with (t_law_map_s12, hc7)
          have hkl2 : kd.toNat < cs.length := by omega
          refine atK_of (n := kd.toNat) (by omega) (by rw [List.getElem?_map, List.getElem?_eq_getElem hkl2]; rfl) ?_
          have bt := bcs _ (List.getElem_mem hkl2)
          wide_line with t_law_map_s13
          by_cases d1 : mood = 3
          · rw [if_pos d1]
            by_cases d2 : way < 2
            · rw [if_pos d2]
              refine draw_ext hs9 (by decide) (by decide) fun v8 m8 hs11 hx11 v80 v81 => ?_
              try wide_line
              have hm8 := hx11.get da hm7
              have hk8 := hx11.get kna hk7
              by_cases d3 : 0 < v8
              · rw [if_pos d3]
                wide_line with hm8
                refine atK_of (n := 0) rfl g0 ?_
                refine at_last gL ?_
                have bL := (hb L mL).2 d2
                have bU := (hb U mU).2 d2
                have bz := (hb z mz).2 d2
                have bp : Bd 9 (L + U) := bL.add bU
                refine ⟨_, _, rfl, bL.mono (by decide), bU.mono (by decide), ?_⟩
                refine ⟨_, _, rfl, bp.mono (by decide), bz.mono (by decide), ?_⟩
                exact h14 _ m8 _ _ (bp.sub bz) hm8 hk8 hs11 (hx10.trans hx11)
              · rw [if_neg d3]
                exact h14 _ m8 _ _ bt hm8 hk8 hs11 (hx10.trans hx11)
            · rw [if_neg d2]
              exact h14 _ m7 _ _ bt hm7 hk7 hs9 hx10
          · rw [if_neg d1]
            exact h14 _ m7 _ _ bt hm7 hk7 hs9 hx10
        wide_line with (t_law_map_b9, hk)
        refine ⟨by rw [List.length_map]; omega, ?_⟩
        refine neNil_any enc_kn.py hk ?_
        by_cases ek : ks = []
        · subst ek
          wide_line with (decide_true, Bool.xor_true, Bool.not_true)
          exact h10 z (hb z mz).1
        · obtain ⟨ks', l, rfl⟩ : ∃ ks' l, ks = ks' ++ [l] := ⟨ks.dropLast, ks.getLast ek, (List.dropLast_concat_getLast ek).symm⟩
          rw [decide_eq_false ek]
          wide_line with Bool.xor_false
          rw [List.map_append, List.append_assoc]
          refine at_m2m ?_
          try wide_line
          exact h10 l.2 (e2 l (by simp)).1
    wide_line with (t_law_map_s5, mput_same)
    rw [List.length_map]
    by_cases c2 : (((S.take most).length : Nat) : Int) < 2
    · rw [if_pos c2]
      intro e he
      have ea := seed_ne (seed_put hs ca) he
      have e0 : [D.tup [D.int (-3), D.int 1], D.tup [D.int 5, D.int 1]] = [((-3 : Int) : Rat), ((5 : Int) : Rat)].map fr := rfl
      rw [e0]
      have hx5 := hx.free (o := .lst ((S.take most).map fr)) (hx.none ca hc)
      refine rest e _ _ mput_same ea ?_ (by simp) (by simpa using h2) ?_ (seed_put (seed_put hs ca) ea) (hx5.free (hx5.none ea he))
      · refine List.Pairwise.cons (fun y hy => ?_) (List.pairwise_singleton _ _)
        simp only [List.mem_singleton] at hy
        rw [hy]
        exact Rat.intCast_lt_intCast.mpr (by decide)
      · intro x hx
        simp only [List.mem_cons, List.not_mem_nil, or_false] at hx
        have b4 : Bd 4 x := by rcases hx with e | e <;> rw [e] <;> exact ⟨by decide, by decide⟩
        exact ⟨b4.mono (by decide), fun _ => b4⟩
    · rw [if_neg c2]
      refine rest c _ _ mput_same ca (hr.sublist (List.take_sublist _ _)) (by omega) (by rw [List.length_take]; omega) (fun x hx => hb x (List.mem_of_mem_take hx)) (seed_put hs ca) (hx.free (hx.none ca hc))
  · rintro j hj nx hnx r m' ⟨b, S, q4, rfl, hm, ba, hr, hl, hb, hs, hx⟩
    refine ⟨trivial, ?_⟩
    wide_line with t_law_map_b3
    refine ⟨a, way, rfl, hs, w0, by omega, fun q m3 b14 b4 hs3 hx3 => ?_⟩
    try wide_line
    refine ⟨b, S, q, rfl, hx3.get ba hm, hr, by omega, fun y hy => (hb y hy).1.mono (by decide), b14.mono (by decide), fun f hf => ?_⟩
    try wide_line
    have fa := seed_ne hs3 hf
    have hx4 := hx.trans hx3
    refine hnx _ _ ⟨f, insR q S, _, rfl, mput_same, fa, ris_insR hr, by have := insR_len q S; omega, fun x hx => ?_, seed_put hs3 fa, hx4.free (hx4.none fa hf)⟩
    rcases (mem_insR S).mp hx with e | e
    · rw [e]; exact ⟨b14, b4⟩
    · exact hb x e

/-! ### law_mirrored -/
def t_law_mirrored_b5 : DTS :=
  (sIf (tBool (dLt (dCall sp_law_side (aCons (dIx (dVar 3) (dVar 5)) (aCons (dIx (dVar 3) (dVar 4)) aNil))) (dC (.int 0)))) (sSet 4 (dVar 5)) sNext)
def t_law_mirrored_s6 : DTS :=
  (sDrop (dM gAppend (dVar 1) (aCons (dB gTupleOf (aCons (dPlus (dCut (dVar 3) (oSome (dVar 4)) oNone) (dCut (dVar 3) oNone (oSome (dVar 4)))) aNil)) aNil)))
def t_law_mirrored_s4 : DTS :=
  (sSeq (sFor (iRng1' (dB gLen (aCons (dVar 3) aNil))) (gName' 5) t_law_mirrored_b5) t_law_mirrored_s6)
def t_law_mirrored_s3 : DTS :=
  (sSeq (sSet 4 (dC (.int 0))) t_law_mirrored_s4)
def t_law_mirrored_b2 : DTS :=
  (sSeq (sSetN 3 (nLc (iRow (dVar 2)) (gName' 6) tYes' (dTup (aCons (dSub (dC (.int 0)) (dIx (dVar 6) (dC (.int 0)))) (aCons (dIx (dVar 6) (dC (.int 1))) aNil))) [6])) t_law_mirrored_s3)
def t_law_mirrored_s7 : DTS :=
  (sRet (dVar 1))
def t_law_mirrored_s1 : DTS :=
  (sSeq (sFor (iRow (dVar 0)) (gName' 2) t_law_mirrored_b2) t_law_mirrored_s7)
def t_law_mirrored : DTS :=
  (sSeq (sSetN 1 (nLst aNil)) t_law_mirrored_s1)
def sp_law_mirrored : DSp := fun ds m R _ => ∃ (rows : List (List Rat)), ds = [rdD rows] ∧ rows.length ≤ 1000 ∧ (∀ w ∈ rows, 1 ≤ w.length ∧ w.length ≤ 7 ∧ ∀ x ∈ w, Bd 1500 x) ∧ ∀ f, m f = none → R (.ref f) (mput m f (.lst ((rows.map turnL).map rowD)))
theorem len_law_mirrored : ∀ ds m R E, sp_law_mirrored ds m R E → ds.length = (["rows"] : List Str).length := by
  rintro ds m R E ⟨a, rfl, _⟩; rfl
theorem leastAt_lt (l : List Rat) : ∀ k, k ≤ l.length → 1 ≤ l.length → leastAt l k < l.length
  | 0, _, h => h
  | k + 1, hk, h => by
    have := leastAt_lt l k (by omega) h
    have hs : leastAt l (k + 1) = if l.getD k 0 < l.getD (leastAt l k) 0 then k else leastAt l k := rfl
    rw [hs]
    split
    · omega
    · exact this
theorem rd_law_mirrored : ∀ ds m R E, sp_law_mirrored ds m R E → t_law_mirrored (dends R) (dstart 7 ds) m := by
  rintro ds m R E ⟨rows, rfl, hl, hb, hR⟩
  show t_law_mirrored (dends R) [some (rdD rows), none, none, none, none, none, none] m
  have hsl := sizeLine_eq
  have er : rdD rows = .tup (rows.map rowD) := rfl
  rw [er]
  wide_line with t_law_mirrored
  intro f hf
  wide_line with t_law_mirrored_s1
  refine for_ind rowD (fun xs r M => ∃ (dn : List (List Rat)) (q2 q3 q4 q5 q6 : Option D), rows = dn ++ xs ∧ r = [some (.tup (rows.map rowD)), some (.ref f), q2, q3, q4, q5, q6] ∧ M f = some (.lst ((dn.map turnL).map rowD)) ∧ Sub m M) ?_ ?_ rows _ _ ⟨[], _, _, _, _, _, rfl, rfl, mput_same, Sub.new hf⟩
  · rintro r M ⟨dn, q2, q3, q4, q5, q6, e, rfl, hF, hS⟩
    refine ⟨trivial, ?_⟩
    rw [List.append_nil] at e
    wide_line with t_law_mirrored_s7
    refine ⟨mput m f (.lst ((rows.map turnL).map rowD)), fun z u hz => ?_, hR f hf⟩
    by_cases c : z = f
    · subst c
      rw [mput_same] at hz
      rw [hF, ← e]
      exact hz
    · rw [mput_ne c] at hz
      exact hS z u hz
  · rintro w xs nx hnx r M ⟨dn, q2, q3, q4, q5, q6, e, rfl, hF, hS⟩
    refine ⟨trivial, ?_⟩
    obtain ⟨w1, w7, hw⟩ := hb w (by rw [e]; simp)
    have ew : rowD w = .tup (w.map fr) := rfl
    wide_line with (t_law_mirrored_b2, ew)
    refine lc_map fr (fun _ => true) (fun x => fr (-x)) trivial _ _ (by simp; omega) ?_ ?_
    · intro x hx acc W hacc hW
      rw [if_pos rfl] at hW
      try wide_line
      exact ⟨hacc, by rw [fr_negD]; exact hW⟩
    rw [filter_yes, List.nil_append]
    have em : (w.map fun x => fr (-x)) = (w.map fun x => -x).map fr := by rw [List.map_map]; rfl
    rw [em]
    have hll : (w.map fun x => -x).length = w.length := List.length_map ..
    have hbl : ∀ x ∈ (w.map fun x => -x), Bd 1500 x := fun x hx => by
      obtain ⟨y, hy, rfl⟩ := List.mem_map.mp hx
      exact bd_neg (hw y hy)
    have etl : turnL w = (w.map fun x => -x).drop (leastAt (w.map fun x => -x) w.length) ++ (w.map fun x => -x).take (leastAt (w.map fun x => -x) w.length) := rfl
    generalize (w.map fun x => -x) = l at *
    try wide_line
    intro g hg
    wide_line with (t_law_mirrored_s3, t_law_mirrored_s4)
    have hfg : f ≠ g := ne_of hF hg
    have hlt := leastAt_lt l
    refine ⟨⟨by omega, by rw [List.length_map]; omega⟩, ?_⟩
    rw [show ((l.map fr).length : Int).toNat = w.length from by rw [List.length_map, hll]; rfl]
    refine for_rng 0 w.length (fun j r M' => ∃ q5, r = [some (.tup (rows.map rowD)), some (.ref f), some (.tup (w.map fr)), some (.ref g), some (.int (leastAt l j : Nat)), q5, q6] ∧ M' = mput M g (.lst (l.map fr))) ?_ ?_ _ _ ⟨_, rfl, rfl⟩
    · rintro r M' ⟨q5, rfl, rfl⟩
      refine ⟨trivial, ?_⟩
      have hk := hlt w.length (by omega) (by omega)
      generalize leastAt l w.length = k at *
      have c1 : cutD (l.map fr) (some (k : Int)) none = (l.drop k).map fr := cutD_drop (k := (k : Int)) (by omega) (by simp; omega)
      have c2 : cutD (l.map fr) none (some (k : Int)) = (l.take k).map fr := cutD_take (k := (k : Int)) (by omega)
      have hfm : mput M g (.lst (l.map fr)) f = some (.lst ((dn.map turnL).map rowD)) := by rw [mput_ne hfg]; exact hF
      wide_line with (t_law_mirrored_s6, mput_same, hfm, c1)
      refine ⟨⟨_, rfl⟩, fun a ha => ?_⟩
      have hga : g ≠ a := ne_of (mput_same (m := M) (a := g) (o := .lst (l.map fr))) ha
      have hfa : f ≠ a := ne_of hfm ha
      simp only [mput_ne hga, mput_same, ↓bK_bl, ↓lstK_lst, ↓intK_int, ↓optK_some, ↓tBool_, ↓dAndV_, ↓gI_, ↓gI0_, ↓gAdd_int, ↓gAdd_tup, ↓gAdd_ref, ↓gNeg_, ↓gIx_tup, ↓gIx_ref, ↓atK_0, ↓atK_1, ↓atK_2, ↓atK_3, ↓atK_last, ↓setK_0, ↓setK_2, ↓gLen_tup, ↓gLen_rl, ↓gLen_ref, ↓gTupleOf_ref, ↓seqK_tup, ↓seqK_ref, ↓nListOf_, ↓isLst_ref, ↓gAppend_, ↓refK_ref, ↓dExtN_, ↓gExt_, ↓gSetIx_, ↓itK_some, ↓iRow_, ↓rowIt_tup, ↓rowIt_rl, ↓iRng1_, ↓iRng2_, ↓iZip_, ↓gNil_, ↓gCons_, ↓gTup_, ↓gAbs_, ↓gMax2_, ↓gInt_bl, ↓gLe_int, ↓gEq_int, ↓gNe_int, ↓oNone_, ↓oSome_, ↓gStep_tup, ↓gCut_tup, ↓gCut_ref, ↓rowK_ref, ↓nCut_, ↓nRev_, ↓nCatEN_, ↓nRep_, ↓dIxN_, ↓sAug_, ↓gMax4_, ↓nZip_, ↓zK_tup, ↓zK_ref, ↓dVar_0, ↓dVar_1, ↓dVar_2, ↓dVar_3, ↓dVar_4, ↓dVar_5, ↓dVar_6, ↓dVar_7, ↓dVar_8, ↓dVar_9, ↓dVar_10, ↓dVar_11, ↓sz_0, ↓sz_1, ↓sz_2, ↓sz_3, ↓sz_4, ↓sz_5, ↓sz_6, ↓u_sSeq, ↓u_sNext, ↓u_sSet, ↓u_sSetN, ↓u_sAsg, ↓u_sIf, ↓u_sRet, ↓u_sDrop, ↓u_sPar, ↓u_sFor, ↓u_dC, ↓u_d2, ↓u_d1, ↓u_dTup, ↓u_dNew, ↓u_aNil, ↓u_aCons, ↓u_nLst, ↓u_tAnd', ↓u_tOr', ↓u_tNot', ↓u_gName', ↓u_dCall, ↓u_dB, ↓u_dTupN, ↓u_dM, ↓u_iNew, ↓u_nLc, ↓u_dCut, ↓u_nCutN, ↓u_nCatNN, ↓u_d2N, ↓u_dNN, ↓u_tYes', ↓u_dStep, ↓u_nSgn, List.set_cons_zero, List.set_cons_succ, dwipe, ite_true, ite_false, Bool.false_eq_true, Bool.true_eq_false, Bool.not_true, Bool.not_false, beq_self_eq_true, decide_eq_true_eq, Bool.not_eq_true', decide_eq_false_iff_not, mput_same, mput_put, dends, List.length_cons, List.length_nil, true_and, and_true, Nat.reduceAdd, Nat.reduceEqDiff, Int.reduceToNat, ↓x_fr0, ↓x_fr1, ↓x_kn0, ↓x_kn1, ↓x_map, ↓x_at0, ↓x_len, ↓x_row, ↓x_cut, ↓x_tup2]
      intro b hb2
      have hab : a ≠ b := ne_of mput_same hb2
      have hfb : f ≠ b := ne_of (show mput (mput M g (.lst (l.map fr))) a (.lst ((l.drop k).map fr)) f = some (.lst ((dn.map turnL).map rowD)) by rw [mput_ne hfa]; exact hfm) hb2
      simp only [mput_ne hab, mput_same, c2, ↓bK_bl, ↓lstK_lst, ↓intK_int, ↓optK_some, ↓tBool_, ↓dAndV_, ↓gI_, ↓gI0_, ↓gAdd_int, ↓gAdd_tup, ↓gAdd_ref, ↓gNeg_, ↓gIx_tup, ↓gIx_ref, ↓atK_0, ↓atK_1, ↓atK_2, ↓atK_3, ↓atK_last, ↓setK_0, ↓setK_2, ↓gLen_tup, ↓gLen_rl, ↓gLen_ref, ↓gTupleOf_ref, ↓seqK_tup, ↓seqK_ref, ↓nListOf_, ↓isLst_ref, ↓gAppend_, ↓refK_ref, ↓dExtN_, ↓gExt_, ↓gSetIx_, ↓itK_some, ↓iRow_, ↓rowIt_tup, ↓rowIt_rl, ↓iRng1_, ↓iRng2_, ↓iZip_, ↓gNil_, ↓gCons_, ↓gTup_, ↓gAbs_, ↓gMax2_, ↓gInt_bl, ↓gLe_int, ↓gEq_int, ↓gNe_int, ↓oNone_, ↓oSome_, ↓gStep_tup, ↓gCut_tup, ↓gCut_ref, ↓rowK_ref, ↓nCut_, ↓nRev_, ↓nCatEN_, ↓nRep_, ↓dIxN_, ↓sAug_, ↓gMax4_, ↓nZip_, ↓zK_tup, ↓zK_ref, ↓dVar_0, ↓dVar_1, ↓dVar_2, ↓dVar_3, ↓dVar_4, ↓dVar_5, ↓dVar_6, ↓dVar_7, ↓dVar_8, ↓dVar_9, ↓dVar_10, ↓dVar_11, ↓sz_0, ↓sz_1, ↓sz_2, ↓sz_3, ↓sz_4, ↓sz_5, ↓sz_6, ↓u_sSeq, ↓u_sNext, ↓u_sSet, ↓u_sSetN, ↓u_sAsg, ↓u_sIf, ↓u_sRet, ↓u_sDrop, ↓u_sPar, ↓u_sFor, ↓u_dC, ↓u_d2, ↓u_d1, ↓u_dTup, ↓u_dNew, ↓u_aNil, ↓u_aCons, ↓u_nLst, ↓u_tAnd', ↓u_tOr', ↓u_tNot', ↓u_gName', ↓u_dCall, ↓u_dB, ↓u_dTupN, ↓u_dM, ↓u_iNew, ↓u_nLc, ↓u_dCut, ↓u_nCutN, ↓u_nCatNN, ↓u_d2N, ↓u_dNN, ↓u_tYes', ↓u_dStep, ↓u_nSgn, List.set_cons_zero, List.set_cons_succ, dwipe, ite_true, ite_false, Bool.false_eq_true, Bool.true_eq_false, Bool.not_true, Bool.not_false, beq_self_eq_true, decide_eq_true_eq, Bool.not_eq_true', decide_eq_false_iff_not, mput_same, mput_put, dends, List.length_cons, List.length_nil, true_and, and_true, Nat.reduceAdd, Nat.reduceEqDiff, Int.reduceToNat, ↓x_fr0, ↓x_fr1, ↓x_kn0, ↓x_kn1, ↓x_map, ↓x_at0, ↓x_len, ↓x_row, ↓x_cut, ↓x_tup2]
      refine ⟨by simp; omega, fun c hc => ?_⟩
      have hfc : f ≠ c := ne_of (show mput (mput (mput M g (.lst (l.map fr))) a (.lst ((l.drop k).map fr))) b (.lst ((l.take k).map fr)) f = some (.lst ((dn.map turnL).map rowD)) by rw [mput_ne hfb, mput_ne hfa]; exact hfm) hc
      simp only [mput_ne hfc, mput_ne hfb, mput_ne hfa, hfm, ↓bK_bl, ↓lstK_lst, ↓intK_int, ↓optK_some, ↓tBool_, ↓dAndV_, ↓gI_, ↓gI0_, ↓gAdd_int, ↓gAdd_tup, ↓gAdd_ref, ↓gNeg_, ↓gIx_tup, ↓gIx_ref, ↓atK_0, ↓atK_1, ↓atK_2, ↓atK_3, ↓atK_last, ↓setK_0, ↓setK_2, ↓gLen_tup, ↓gLen_rl, ↓gLen_ref, ↓gTupleOf_ref, ↓seqK_tup, ↓seqK_ref, ↓nListOf_, ↓isLst_ref, ↓gAppend_, ↓refK_ref, ↓dExtN_, ↓gExt_, ↓gSetIx_, ↓itK_some, ↓iRow_, ↓rowIt_tup, ↓rowIt_rl, ↓iRng1_, ↓iRng2_, ↓iZip_, ↓gNil_, ↓gCons_, ↓gTup_, ↓gAbs_, ↓gMax2_, ↓gInt_bl, ↓gLe_int, ↓gEq_int, ↓gNe_int, ↓oNone_, ↓oSome_, ↓gStep_tup, ↓gCut_tup, ↓gCut_ref, ↓rowK_ref, ↓nCut_, ↓nRev_, ↓nCatEN_, ↓nRep_, ↓dIxN_, ↓sAug_, ↓gMax4_, ↓nZip_, ↓zK_tup, ↓zK_ref, ↓dVar_0, ↓dVar_1, ↓dVar_2, ↓dVar_3, ↓dVar_4, ↓dVar_5, ↓dVar_6, ↓dVar_7, ↓dVar_8, ↓dVar_9, ↓dVar_10, ↓dVar_11, ↓sz_0, ↓sz_1, ↓sz_2, ↓sz_3, ↓sz_4, ↓sz_5, ↓sz_6, ↓u_sSeq, ↓u_sNext, ↓u_sSet, ↓u_sSetN, ↓u_sAsg, ↓u_sIf, ↓u_sRet, ↓u_sDrop, ↓u_sPar, ↓u_sFor, ↓u_dC, ↓u_d2, ↓u_d1, ↓u_dTup, ↓u_dNew, ↓u_aNil, ↓u_aCons, ↓u_nLst, ↓u_tAnd', ↓u_tOr', ↓u_tNot', ↓u_gName', ↓u_dCall, ↓u_dB, ↓u_dTupN, ↓u_dM, ↓u_iNew, ↓u_nLc, ↓u_dCut, ↓u_nCutN, ↓u_nCatNN, ↓u_d2N, ↓u_dNN, ↓u_tYes', ↓u_dStep, ↓u_nSgn, List.set_cons_zero, List.set_cons_succ, dwipe, ite_true, ite_false, Bool.false_eq_true, Bool.true_eq_false, Bool.not_true, Bool.not_false, beq_self_eq_true, decide_eq_true_eq, Bool.not_eq_true', decide_eq_false_iff_not, mput_same, mput_put, dends, List.length_cons, List.length_nil, true_and, and_true, Nat.reduceAdd, Nat.reduceEqDiff, Int.reduceToNat, ↓x_fr0, ↓x_fr1, ↓x_kn0, ↓x_kn1, ↓x_map, ↓x_at0, ↓x_len, ↓x_row, ↓x_cut, ↓x_tup2]
      have hdl : dn.length ≤ 1000 := by
        have := congrArg List.length e
        simp at this
        omega
      refine ⟨by simp; omega, ?_⟩
      refine hnx _ _ ⟨dn ++ [w], _, _, _, _, _, by rw [e]; simp, rfl, ?_, ?_⟩
      · have er2 : D.tup ((l.drop k).map fr ++ (l.take k).map fr) = rowD (turnL w) := by rw [← List.map_append, ← etl]; rfl
        rw [mput_same, er2, List.map_append, List.map_append]
        rfl
      · intro z u hz
        have hS := hS z u hz
        have z1 : z ≠ f := ne_of hz hf
        have z2 : z ≠ g := ne_of hS hg
        have y1 : mput M g (.lst (l.map fr)) z = some u := by rw [mput_ne z2]; exact hS
        have z3 : z ≠ a := ne_of y1 ha
        have y2 : mput (mput M g (.lst (l.map fr))) a (.lst ((l.drop k).map fr)) z = some u := by rw [mput_ne z3]; exact y1
        have z4 : z ≠ b := ne_of y2 hb2
        have y3 : mput (mput (mput M g (.lst (l.map fr))) a (.lst ((l.drop k).map fr))) b (.lst ((l.take k).map fr)) z = some u := by rw [mput_ne z4]; exact y2
        have z5 : z ≠ c := ne_of y3 hc
        rw [mput_ne z1, mput_ne z5]
        exact y3
    · rintro j hj nx2 hnx2 r M' ⟨q5, rfl, rfl⟩
      refine ⟨trivial, ?_⟩
      have hk := hlt j (by omega) (by omega)
      have g1 : (l.map fr)[j]? = some (fr (l.getD j 0)) := by rw [List.getElem?_map, List.getD_eq_getElem?_getD, List.getElem?_eq_getElem (by omega)]; rfl
      have g2 : (l.map fr)[leastAt l j]? = some (fr (l.getD (leastAt l j) 0)) := by rw [List.getElem?_map, List.getD_eq_getElem?_getD, List.getElem?_eq_getElem hk]; rfl
      have b1 : Bd 1500 (l.getD j 0) := hbl _ (by rw [List.getD_eq_getElem?_getD, List.getElem?_eq_getElem (by omega)]; exact List.getElem_mem _)
      have b2 : Bd 1500 (l.getD (leastAt l j) 0) := hbl _ (by rw [List.getD_eq_getElem?_getD, List.getElem?_eq_getElem hk]; exact List.getElem_mem _)
      have hs : leastAt l (j + 1) = if l.getD j 0 < l.getD (leastAt l j) 0 then j else leastAt l j := rfl
      wide_line with (t_law_mirrored_b5, mput_same)
      refine atK_of (n := j) (by omega) g1 ?_
      refine atK_of (n := leastAt l j) rfl g2 ?_
      try wide_line
      refine ⟨_, _, rfl, b1.mono (by decide), b2.mono (by decide), ?_⟩
      try wide_line
      split
      · rename_i c
        rw [sg_neg] at c
        rw [if_pos c] at hs
        refine hnx2 _ _ ⟨some (.int (0 + (j : Int))), ?_, rfl⟩
        rw [hs, Int.zero_add]
      · rename_i c
        rw [sg_neg] at c
        rw [if_neg c] at hs
        refine hnx2 _ _ ⟨some (.int (0 + (j : Int))), ?_, rfl⟩
        rw [hs]

/-! ### law_after -/
def t_law_after_b1 : DTS :=
  (sSet 1 (dCall sp_value_of (aCons (dVar 0) (aCons (dVar 1) aNil))))
def t_law_after_s2 : DTS :=
  (sRet (dVar 1))
def t_law_after : DTS :=
  (sSeq (sFor (iRng1' (dVar 2)) (gName' 3) t_law_after_b1) t_law_after_s2)
def sp_law_after : DSp := fun ds m R _ => ∃ (ks : List Kn) (p : Rat) (n : Nat), ds = [mapD ks, fr p, .int n] ∧ MpA ks ∧ n ≤ 7 ∧ loK ks ≤ p ∧ p ≤ hiK ks ∧ (∀ j, j ≤ 6 → Bd 1500 (iterV ks j p)) ∧ R (fr (iterV ks n p)) m
theorem len_law_after : ∀ ds m R E, sp_law_after ds m R E → ds.length = (["knots", "point", "many"] : List Str).length := by
  rintro ds m R E ⟨a, b, c, rfl, _⟩; rfl
theorem rd_law_after : ∀ ds m R E, sp_law_after ds m R E → t_law_after (dends R) (dstart 4 ds) m := by
  rintro ds m R E ⟨ks, p, n, rfl, hM, n7, p1, p2, hit, hR⟩
  show t_law_after (dends R) [some (mapD ks), some (fr p), some (.int n), none] m
  have g := hM.good
  wide_line with t_law_after
  refine ⟨by omega, ?_⟩
  refine for_rng 0 n (fun j r M => (∃ q3, r = [some (mapD ks), some (fr (iterV ks j p)), some (.int n), q3]) ∧ M = m) ?_ ?_ _ _ ⟨⟨_, rfl⟩, rfl⟩
  · rintro r M ⟨⟨q3, rfl⟩, rfl⟩
    refine ⟨trivial, ?_⟩
    wide_line with t_law_after_s2
    exact fin_of hR
  · rintro j hj nx hnx r M ⟨⟨q3, rfl⟩, rfl⟩
    refine ⟨trivial, ?_⟩
    have rj := iterV_rng g p1 p2 j
    wide_line with t_law_after_b1
    refine ⟨ks, _, rfl, g.len, g.inc, .of g.inc hM.bd (by decide), hit j (by omega), rj.1, rj.2, ?_⟩
    exact hnx _ _ ⟨⟨_, rfl⟩, rfl⟩

/-! ### law_lies -/
def t_law_lies : DTS :=
  (sRet (dNN (gEqNN true) (nLc (iRow (dVar 1)) (gTup' 2 (gCons' (gName' 2) (gCons' (gName' 3) gNil'))) (tAnd' (tBool (dLeA (dCall sp_law_side (aCons (dVar 2) (aCons (dIx (dVar 0) (dC (.int 0))) aNil))) (dC (.int 0)))) (tBool (dLeA (dCall sp_law_side (aCons (dIx (dVar 0) (dC (.int 1))) (aCons (dVar 3) aNil))) (dC (.int 0))))) (dC (.int 1)) [2, 3]) (nLst aNil)))
/-- a pair lies in one of the pairs -/
def inP (ps : List Kn) (k : Kn) : Bool := ps.any fun q => decide (q.1 ≤ k.1) && decide (k.2 ≤ q.2)
def sp_law_lies : DSp := fun ds m R _ => ∃ (k : Kn) (ps : List Kn), ds = [knD k, mapD ps] ∧ Bd 4000 k.1 ∧ Bd 4000 k.2 ∧ BdK 4000 ps ∧ ps.length ≤ 1000 ∧ R (.bl (inP ps k)) m
theorem len_law_lies : ∀ ds m R E, sp_law_lies ds m R E → ds.length = (["pair", "pairs"] : List Str).length := by
  rintro ds m R E ⟨a, b, rfl, _⟩; rfl
theorem rd_law_lies : ∀ ds m R E, sp_law_lies ds m R E → t_law_lies (dends R) (dstart 4 ds) m := by
  rintro ds m R E ⟨k, ps, rfl, b1, b2, bs, hl, hR⟩
  show t_law_lies (dends R) [some (knD k), some (mapD ps), none, none] m
  have hsl := sizeLine_eq
  wide_line with t_law_lies
  refine lc_map knD (fun q => decide (q.1 ≤ k.1) && decide (k.2 ≤ q.2)) (fun _ => D.int 1) trivial _ _ (by simp; omega) (fun q hq acc W hacc hW => ?_) ?_
  · have bq := bs q hq
    try wide_line
    refine ⟨_, _, rfl, bq.1, b1, ?_⟩
    try wide_line
    by_cases c : q.1 ≤ k.1
    · rw [if_pos (sgLe.mpr c)]
      rw [decide_eq_true c, Bool.true_and] at hW
      refine ⟨_, _, rfl, b2, bq.2, ?_⟩
      try wide_line
      by_cases d : k.2 ≤ q.2
      · rw [if_pos (sgLe.mpr d)]
        rw [decide_eq_true d, if_pos rfl] at hW
        exact ⟨hacc, hW⟩
      · rw [if_neg (fun h => d (sgLe.mp h))]
        rw [decide_eq_false d, if_neg (by decide)] at hW
        exact hW
    · rw [if_neg (fun h => c (sgLe.mp h))]
      rw [decide_eq_false c, Bool.false_and, if_neg (by decide)] at hW
      first
        | exact hW
        | (try wide_line; exact hW)
  · rw [List.nil_append]
    have e1 : ∀ l : List Kn, l.map (fun _ => D.int 1) = (l.map fun _ => (1 : Int)).map D.int := fun l => by rw [List.map_map]; rfl
    rw [e1]
    refine enc_nil (n := 1) enc_int.py ?_
    have e2 : (true ^^ decide ((ps.filter fun q => decide (q.1 ≤ k.1) && decide (k.2 ≤ q.2)).map (fun _ => (1 : Int)) = [])) = inP ps k := by
      rw [Bool.eq_iff_iff, inP, List.any_eq_true]
      simp [List.filter_eq_nil_iff]
    rw [e2]
    exact fin_of hR
theorem inP_of {ps : List Kn} {k q : Kn} (hq : q ∈ ps) (h1 : q.1 ≤ k.1) (h2 : k.2 ≤ q.2) : inP ps k = true := by
  unfold inP
  rw [List.any_eq_true]
  exact ⟨q, hq, by simp [h1, h2]⟩

/-! ### law_middle -/
def t_law_middle : DTS :=
  (sRet (dCall sp_law_over (aCons (dCall sp_law_plus (aCons (dIx (dVar 0) (dC (.int 0))) (aCons (dIx (dVar 0) (dC (.int 1))) aNil))) (aCons (dTup (aCons (dC (.int 2)) (aCons (dC (.int 1)) aNil))) aNil))))
def sp_law_middle : DSp := fun ds m R _ => ∃ (k : Kn), ds = [knD k] ∧ Bd 1900 k.1 ∧ Bd 1900 k.2 ∧ R (fr ((k.1 + k.2) / 2)) m
theorem len_law_middle : ∀ ds m R E, sp_law_middle ds m R E → ds.length = (["pair"] : List Str).length := by
  rintro ds m R E ⟨a, rfl, _⟩; rfl
theorem rd_law_middle : ∀ ds m R E, sp_law_middle ds m R E → t_law_middle (dends R) (dstart 1 ds) m := by
  rintro ds m R E ⟨k, rfl, h1, h2, hR⟩
  show t_law_middle (dends R) [some (knD k)] m
  have s : Bd 4000 (k.1 + k.2) := h1.add h2
  wide_line with t_law_middle
  refine ⟨_, _, rfl, h1.mono (by decide), h2.mono (by decide), ?_⟩
  try wide_line
  have e2 : D.tup [D.int 2, D.int 1] = fr 2 := rfl
  rw [e2]
  refine ⟨_, _, rfl, s, (show Bd 2 (2 : Rat) from ⟨by decide, by decide⟩).mono (by decide), by decide, ?_⟩
  exact fin_of hR

/-! ### law_round_right -/
def t_law_round_right_s4 : DTS :=
  (sIf (tNot' (tBool (dCall sp_law_lies (aCons (dTup (aCons (dVar 5) (aCons (dVar 5) aNil))) (aCons (dVar 1) aNil))))) (sRet (dC (.bl false))) sNext)
def t_law_round_right_s3 : DTS :=
  (sSeq (sSet 5 (dCall sp_value_of (aCons (dVar 0) (aCons (dVar 4) aNil)))) t_law_round_right_s4)
def t_law_round_right_b2 : DTS :=
  (sSeq (sIf (tBool (dNe (dCall sp_law_after (aCons (dVar 0) (aCons (dVar 4) (aCons (dVar 2) aNil)))) (dVar 4))) (sRet (dC (.bl false))) sNext) t_law_round_right_s3)
def t_law_round_right_b1 : DTS :=
  (sFor (iNew (nLst (aCons (dIx (dVar 3) (dC (.int 0))) (aCons (dCall sp_law_middle (aCons (dVar 3) aNil)) (aCons (dIx (dVar 3) (dC (.int 1))) aNil))))) (gName' 4) t_law_round_right_b2)
def t_law_round_right_s5 : DTS :=
  (sRet (dC (.bl true)))
def t_law_round_right : DTS :=
  (sSeq (sFor (iRow (dVar 1)) (gName' 3) t_law_round_right_b1) t_law_round_right_s5)
--uses _law_lies _law_after _law_middle
/-- what is told of points that come round -/
structure ToldR (ks : List Kn) (n : Nat) (ps : List Kn) : Prop where
  canon : Canon ps
  in_ : ∀ x, InU ps x ↔ loK ks ≤ x ∧ x ≤ hiK ks ∧ iterV ks n x = x
  bd : ∀ k ∈ ps, ∀ x, (x = k.1 ∨ x = k.2 ∨ x = (k.1 + k.2) / 2) → ∀ j, j ≤ 7 → Bd 1500 (iterV ks j x)
  len : ps.length ≤ 1000
def sp_law_round_right : DSp := fun ds m R _ => ∃ (ks : List Kn) (ps : List Kn) (n : Nat), ds = [mapD ks, mapD ps, .int n] ∧ MpA ks ∧ 1 ≤ n ∧ n ≤ 7 ∧ ToldR ks n ps ∧ ∀ m', Sub m m' → R (.bl true) m'
theorem len_law_round_right : ∀ ds m R E, sp_law_round_right ds m R E → ds.length = (["knots", "told", "many"] : List Str).length := by
  rintro ds m R E ⟨a, b, c, rfl, _⟩; rfl
theorem rd_law_round_right : ∀ ds m R E, sp_law_round_right ds m R E → t_law_round_right (dends R) (dstart 6 ds) m := by
  rintro ds m R E ⟨ks, ps, n, rfl, hM, n1, n7, hT, hR⟩
  show t_law_round_right (dends R) [some (mapD ks), some (mapD ps), some (.int n), none, none, none] m
  have hsl := sizeLine_eq
  have g := hM.good
  have hbp : BdK 1500 ps := fun k hk => ⟨hT.bd k hk k.1 (.inl rfl) 0 (by omega), hT.bd k hk k.2 (.inr (.inl rfl)) 0 (by omega)⟩
  wide_line with t_law_round_right
  refine for_ind knD (fun xs r M => ∃ q3 q4 q5, r = [some (mapD ks), some (mapD ps), some (.int n), q3, q4, q5] ∧ (∀ q ∈ xs, q ∈ ps) ∧ Sub m M) ?_ ?_ ps _ _ ⟨_, _, _, rfl, fun q h => h, Sub.refl _⟩
  · rintro r M ⟨q3, q4, q5, rfl, _, S⟩
    refine ⟨trivial, ?_⟩
    wide_line with t_law_round_right_s5
    exact fin_of (hR _ S)
  · rintro k xs nx hnx r M ⟨q3, q4, q5, rfl, hin, S⟩
    refine ⟨trivial, ?_⟩
    have mk := hin k (by simp)
    have bk := hbp k mk
    have ok := hT.canon.1 k mk
    wide_line with t_law_round_right_b1
    refine ⟨k, rfl, bk.1.mono (by decide), bk.2.mono (by decide), ?_⟩
    show forL (fun _ => True) _ _ ([k.1, (k.1 + k.2) / 2, k.2].map fr) _ _ _
    refine for_ind fr (fun xs r M => ∃ q4 q5, r = [some (mapD ks), some (mapD ps), some (.int n), some (knD k), q4, q5] ∧ (∀ x ∈ xs, x = k.1 ∨ x = k.2 ∨ x = (k.1 + k.2) / 2) ∧ Sub m M) ?_ ?_ _ _ _ ⟨_, _, rfl, fun x hx => by simp at hx; grind, S⟩
    · rintro r M ⟨q4, q5, rfl, _, S⟩
      exact ⟨trivial, hnx _ _ ⟨_, _, _, rfl, fun q hq => hin q (List.mem_cons_of_mem _ hq), S⟩⟩
    · rintro x ys nx2 hnx2 r M ⟨q4, q5, rfl, hx, S⟩
      refine ⟨trivial, ?_⟩
      have ex := hx x (by simp)
      have bx := hT.bd k mk x ex
      have ix := (hT.in_ x).mp ⟨k, mk, by grind, by grind⟩
      have rx := g.val ix.1 ix.2.1
      wide_line with t_law_round_right_b2
      refine ⟨ks, x, n, rfl, hM, n7, ix.1, ix.2.1, fun j hj => bx j (by omega), ?_⟩
      rw [ix.2.2]
      refine enc_fr.gNe ?_
      rw [decide_eq_true rfl]
      wide_line with t_law_round_right_s3
      refine ⟨ks, x, rfl, g.len, g.inc, .of g.inc hM.bd (by decide), (bx 0 (by omega)), ix.1, ix.2.1, ?_⟩
      have b1 : Bd 1500 (valK ks x) := bx 1 (by omega)
      have iv : InU ps (valK ks x) := (hT.in_ _).mpr ⟨rx.1, rx.2, by
        have h := iterV_add (ks := ks) (x := x) (b := 1) n
        have h2 := iterV_add (ks := ks) (x := x) (b := n) 1
        have e1 : iterV ks 1 x = valK ks x := rfl
        rw [e1] at h
        rw [← h, Nat.add_comm, h2, ix.2.2]
        rfl⟩
      obtain ⟨q, hq, h1, h2⟩ := iv
      wide_line with t_law_round_right_s4
      refine ⟨(valK ks x, valK ks x), ps, rfl, b1.mono (by decide), b1.mono (by decide), hbp.mono (by decide), hT.len, ?_⟩
      rw [inP_of (k := (valK ks x, valK ks x)) hq h1 h2]
      try wide_line
      exact hnx2 _ _ ⟨_, _, rfl, fun y hy => hx y (List.mem_cons_of_mem _ hy), S⟩

/-! ### law_seed -/
def t_law_seed_s1 : DTS :=
  (sRet (dNew (nLst (aCons (dVar 1) (aCons (dB gInt (aCons (dGe (dVar 1) (dPow (dC (.int 10)) (dC (.int 18)))) aNil)) (aCons (dC (.int 0)) (aCons (dMod (dVar 0) (dC (.int 1999999913))) aNil)))))))
def t_law_seed : DTS :=
  (sSeq (sSet 1 (dB gMax2 (aCons (dVar 0) (aCons (dSub (dC (.int 0)) (dVar 0)) aNil)))) t_law_seed_s1)
/-- the seed of a cell -/
def sp_law_seed : DSp := fun ds m R _ => match ds with
  | [.int _] => ∀ (a : Addr) (o : O), m a = none → isSeed (some o) → R (.ref a) (mput m a o)
  | _ => False
theorem len_law_seed : ∀ ds m R E, sp_law_seed ds m R E → ds.length = (["cell"] : List Str).length := by
  intro ds m R E h
  unfold sp_law_seed at h
  split at h
  · rfl
  · exact h.elim
theorem rd_law_seed : ∀ ds m R E, sp_law_seed ds m R E → t_law_seed (dends R) (dstart 2 ds) m := by
  intro ds m R E h
  unfold sp_law_seed at h
  split at h
  · rename_i cell
    show t_law_seed (dends R) [some (.int cell), none] m
    wide_open with (t_law_seed, t_law_seed_s1)
    refine ⟨⟨by decide, by decide, by decide⟩, by decide, fun a ha => ?_⟩
    exact fin_of (h a _ ha trivial)
  · exact h.elim

/-! ### law_singles_right -/
def t_law_singles_right_s6 : DTS :=
  (sDrop (dExtN (dVar 4) (nLc (iRow (dVar 6)) (gName' 11) (tOr' (tBool (dEq (dVar 5) (dVar 2))) (tBool (d2 (gIn false) (dVar 11) (dVar 3)))) (dVar 11) [11])))
def t_law_singles_right_b5 : DTS :=
  (sSeq (sIf (tBool (dNN (gEqNN true) (nLc (iRng1' (dVar 5)) (gName' 10) (tBool (dNe (dCall sp_value_of (aCons (dVar 0) (aCons (dIx (dVar 6) (dSub (dVar 10) (dC (.int 1)))) aNil))) (dIx (dVar 6) (dVar 10)))) (dC (.int 1)) [10]) (nLst aNil))) (sRet (dC (.bl false))) sNext) t_law_singles_right_s6)
def t_law_singles_right_s4 : DTS :=
  (sFor (iRow (dCall sp_rounds_of (aCons (dVar 0) (aCons (dVar 5) aNil)))) (gName' 6) t_law_singles_right_b5)
def t_law_singles_right_b3 : DTS :=
  (sIf (tBool (dEq (dMod (dVar 2) (dVar 5)) (dC (.int 0)))) (sSeq (sIf (tBool (dNN (gEqNN true) (nLc (iRow (dCall sp_come_round (aCons (dVar 0) (aCons (dVar 5) aNil)))) (gName' 9) (tNot' (tBool (dCall sp_law_lies (aCons (dVar 9) (aCons (dVar 1) aNil))))) (dC (.int 1)) [9]) (nLst aNil))) (sRet (dC (.bl false))) sNext) t_law_singles_right_s4) sNext)
def t_law_singles_right_s7 : DTS :=
  (sRet (dNN (gEqNN false) (nSortedD (dVar 4)) (nSortedD (dVar 3))))
def t_law_singles_right_s2 : DTS :=
  (sSeq (sFor (iRng2' (dC (.int 1)) (dPlus (dVar 2) (dC (.int 1)))) (gName' 5) t_law_singles_right_b3) t_law_singles_right_s7)
def t_law_singles_right_s1 : DTS :=
  (sSeq (sSetN 4 (nLst aNil)) t_law_singles_right_s2)
def t_law_singles_right : DTS :=
  (sSeq (sSetN 3 (nLc (iRow (dVar 1)) (gTup' 2 (gCons' (gName' 7) (gCons' (gName' 8) gNil'))) (tBool (dEq (dVar 7) (dVar 8))) (dVar 7) [7, 8])) t_law_singles_right_s1)
--uses _law_lies
def sp_law_singles_right : DSp := fun ds m R _ => ∃ (ks : List Kn) (n : Nat), ds = [mapD ks, mapD (noughtsK (stayR (turnK ks n))), .int n] ∧ 1 ≤ n ∧ n ≤ 7 ∧ (∀ d, 1 ≤ d → d ≤ n → RnS ks d) ∧ ∀ m', Sub m m' → R (.bl true) m'
theorem len_law_singles_right : ∀ ds m R E, sp_law_singles_right ds m R E → ds.length = (["knots", "told", "many"] : List Str).length := by
  rintro ds m R E ⟨a, b, rfl, _⟩; rfl
theorem rd_law_singles_right : ∀ ds m R E, sp_law_singles_right ds m R E → t_law_singles_right (dends R) (dstart 12 ds) m := by
  rintro ds m R E ⟨ks, n, rfl, n1, n7, hS, hR⟩
  show t_law_singles_right (dends R) [some (mapD ks), some (mapD (noughtsK (stayR (turnK ks n)))), some (.int n), none, none, none, none, none, none, none, none, none] m
  have hsl := sizeLine_eq
  have g := (hS n n1 (Nat.le_refl n)).good
  have hvl := (hS n n1 (Nat.le_refl n)).vl
  have hl7 : ∀ d, 1 ≤ d → d ≤ n → (turnK ks d).length ≤ 1000 := fun d d1 d2 => (hS d d1 d2).len
  have hpl : ∀ d, 1 ≤ d → d ≤ n → (noughtsK (stayR (turnK ks d))).length ≤ 1000 := fun d d1 d2 => by
    have h1 := noughts_len (stayR (turnK ks d))
    have h2 : (stayR (turnK ks d)).length = (turnK ks d).length := by unfold stayR; rw [List.length_map]
    have := hl7 d d1 d2
    omega
  have hpb : ∀ d, 1 ≤ d → d ≤ n → BdK 1500 (noughtsK (stayR (turnK ks d))) := fun d d1 d2 p hp => ⟨((hS d d1 d2).rd p hp p.1 (.inl rfl)).2.2 0 (by omega), ((hS d d1 d2).rd p hp p.2 (.inr rfl)).2.2 0 (by omega)⟩
  have hperm := sing_perm g n1
  have hrs := fun w (hw : w ∈ rdsK ks n) => rds_sing g hw
  have hcov := fun d (hd : d ∣ n) (p : Kn) (hp : p ∈ noughtsK (stayR (turnK ks d))) => less_in g hd hp
  have lps := hpl n n1 (Nat.le_refl n)
  have bps := hpb n n1 (Nat.le_refl n)
  generalize hps : noughtsK (stayR (turnK ks n)) = ps at *
  have hsg : (singL ps).length ≤ 1000 := by
    unfold singL
    rw [List.length_map]
    have := List.length_filter_le (fun p : Kn => decide (p.1 = p.2)) ps
    omega
  wide_line with t_law_singles_right
  refine lc_map knD (fun p => decide (p.1 = p.2)) (fun p => fr p.1) trivial _ _ (by simp; omega) ?_ ?_
  · intro x hx acc W hacc hW
    try wide_line
    refine enc_fr.gEq ?_
    try wide_line
    by_cases c : x.1 = x.2
    · rw [if_pos (by simpa using c)] at hW
      rw [if_pos (by simpa using c)]
      exact ⟨hacc, hW⟩
    · rw [if_neg (by simpa using c)] at hW
      rw [if_neg (by simpa using c)]
      exact hW
  have e1 : [] ++ (ps.filter fun p => decide (p.1 = p.2)).map (fun p => fr p.1) = (singL ps).map fr := by
    unfold singL
    rw [List.nil_append, List.map_map]
    rfl
  rw [e1]
  intro a ha
  wide_line with t_law_singles_right_s1
  intro f hf
  wide_line with t_law_singles_right_s2
  have hA0 : mput (mput m a (.lst ((singL ps).map fr))) f (.lst []) a = some (.lst ((singL ps).map fr)) := by
    rw [mput_ne (ne_of mput_same hf), mput_same]
  have haf : a ≠ f := ne_of mput_same hf
  refine ⟨by omega, ?_⟩
  rw [show ((n : Int) + 1 - 1).toNat = n by omega]
  have fl : ∀ j, j ≤ n → (foundK ks n j).length ≤ j * 7000 := by
    intro j
    induction j with
    | zero => intro _; simp [foundK]
    | succ j ih =>
      intro hj
      have ih := ih (by omega)
      have h1 := hl7 (j + 1) (by omega) hj
      have h2 := rdsK_len ks (j + 1)
      rw [foundK_succ, List.length_append]
      split
      · have := flatten_len (n := 7) (k := 1000) (ws := rdsK ks (j + 1)) (fun w hw => by obtain ⟨p, _, rfl⟩ := rdsK_mem hw; rw [wayR_len]; omega) (by omega)
        omega
      · simp
        omega
  refine for_rng 1 n (fun j r M => ∃ (q5 q6 : Option D), r = [some (mapD ks), some (mapD ps), some (.int n), some (.ref a), some (.ref f), q5, q6, none, none, none, none, none] ∧ M a = some (.lst ((singL ps).map fr)) ∧ M f = some (.lst (((foundK ks n j).filter fun x => decide (x ∈ singL ps)).map fr)) ∧ Sub m M) ?_ ?_ _ _ ⟨_, _, rfl, hA0, mput_same, (Sub.new ha).trans (Sub.new hf)⟩
  · rintro r M ⟨q5, q6, rfl, hA, hF, hSub⟩
    refine ⟨trivial, ?_⟩
    wide_line with (t_law_singles_right_s7, u_nSortedD, sortK_ref, hF, hA)
    have q1 := sorted_frs ((foundK ks n n).filter fun x => decide (x ∈ singL ps))
    have q2 := sorted_frs (singL ps)
    refine gSorted_of enc_fr q1.1 q1.2 ?_
    wide_line with (u_nSortedD, sortK_ref, hF, hA)
    refine gSorted_of enc_fr q2.1 q2.2 ?_
    have es := sort_perm (g := frP) hperm fun a _ b _ h => pfx_fr.inj h
    refine enc_eqNN enc_fr ?_
    rw [decide_eq_true es]
    exact fin_of (hR _ hSub)
  · rintro j hj nx hnx r M ⟨q5, q6, rfl, hA, hF, hSub⟩
    refine ⟨trivial, ?_⟩
    have ej : (1 + (j : Int)) = ((j + 1 : Nat) : Int) := by omega
    have fj := foundK_succ (ks := ks) (n := n) (k := j)
    have flj := fl (j + 1) (by omega)
    have d1 : 1 ≤ j + 1 := by omega
    have d2 : j + 1 ≤ n := by omega
    have hSd := hS (j + 1) d1 d2
    rw [ej]
    generalize j + 1 = d at *
    wide_line with t_law_singles_right_b3
    refine ⟨by omega, ?_⟩
    by_cases c : n % d = 0
    · rw [if_pos (by omega)]
      rw [if_pos c] at fj
      have hdv : d ∣ n := Nat.dvd_of_mod_eq_zero c
      refine ⟨ks, d, rfl, hSd, ?_⟩
      have hcd := hcov d hdv
      have hpd := hpl d d1 d2
      have hbd := hpb d d1 d2
      refine lc_map knD (fun _ => false) (fun _ => .int 1) trivial _ _ (by simp; omega) ?_ ?_
      · intro p hp acc W hacc hW
        obtain ⟨q, hq, q1, q2⟩ := hcd p hp
        have bp := hbd p hp
        try wide_line
        refine ⟨p, ps, rfl, bp.1.mono (by decide), bp.2.mono (by decide), bps.mono (by decide), lps, ?_⟩
        rw [inP_of hq q1 q2]
        try wide_line
        simpa using hW
      rw [List.nil_append, show ((noughtsK (stayR (turnK ks d))).filter fun _ => false) = [] by simp, List.map_nil]
      refine enc_nil (f := D.int) (g := PyData.int) (n := 1) enc_int.py (xs := []) ?_
      wide_line with t_law_singles_right_s4
      refine ⟨ks, d, rfl, d1, hSd, ?_⟩
      have hws : ∀ w ∈ rdsK ks d, ∃ x, w = wayR ks x d ∧ loK ks ≤ x ∧ x ≤ hiK ks ∧ iterV ks d x = x ∧ (∀ i, i < d → Bd 1500 (iterV ks i x)) ∧ (d = n → ∀ y ∈ w, y ∈ singL ps) := by
        intro w hw
        obtain ⟨p, hp, hr, e⟩ := rdsK_iff.mp hw
        have fx := fix_of g hp
        have rr := hSd.rd p hp p.1 (.inl rfl)
        refine ⟨p.1, e, rr.1, rr.2.1, fx.2.2.2 p.1 Rat.le_refl fx.2.1, rr.2.2, fun hdn => ?_⟩
        rw [hdn] at hw
        exact hrs w hw
      generalize rdsK ks d = ws at *
      have er : rdD ws = .tup (ws.map rowD) := rfl
      rw [er]
      try wide_line
      refine for_ind rowD (fun xs r M => ∃ (dn : List (List Rat)) (q6 : Option D), ws = dn ++ xs ∧ r = [some (mapD ks), some (mapD ps), some (.int n), some (.ref a), some (.ref f), some (.int d), q6, none, none, none, none, none] ∧ M a = some (.lst ((singL ps).map fr)) ∧ M f = some (.lst (((foundK ks n j ++ dn.flatten).filter fun x => decide (x ∈ singL ps)).map fr)) ∧ Sub m M) ?_ ?_ _ _ _ ⟨[], _, rfl, rfl, hA, by simpa using hF, hSub⟩
      · rintro r M ⟨dn, q6, e, rfl, hA, hF, hSub⟩
        refine ⟨trivial, ?_⟩
        rw [List.append_nil] at e
        rw [← e, ← fj] at hF
        exact hnx _ _ ⟨_, _, rfl, hA, hF, hSub⟩
      · rintro w xs nx3 hnx3 r M ⟨dn, q6, e, rfl, hA, hF, hSub⟩
        refine ⟨trivial, ?_⟩
        obtain ⟨x, rfl, x1, x2, fx, bx, hin⟩ := hws w (by rw [e]; simp)
        have ew : rowD (wayR ks x d) = .tup ((wayR ks x d).map fr) := rfl
        have hlen : (foundK ks n j).length + dn.flatten.length + d ≤ 50000 := by
          have := congrArg List.length fj
          rw [e] at this
          simp [wayR_len] at this
          simp
          omega
        have gw : ∀ i, i < d → ((wayR ks x d).map fr)[i]? = some (fr (iterV ks i x)) := fun i hi => by rw [List.getElem?_map, wayR_get hi]; rfl
        have gl : ((wayR ks x d).map fr).getLast? = some (fr (iterV ks (d - 1) x)) := by
          rw [List.getLast?_eq_getElem?, List.length_map, wayR_len]
          exact gw _ (by omega)
        have wl := wayR_len (ks := ks) (x := x) (n := d)
        wide_line with (t_law_singles_right_b5, ew)
        refine ⟨⟨by omega, by omega⟩, ?_⟩
        have erg : rngItems 0 ((d : Int)).toNat = (List.range d).map fun t : Nat => D.int (0 + (t : Int)) := by
          unfold rngItems
          rw [Int.toNat_natCast]
        rw [erg]
        refine lc_map (fun t : Nat => D.int (0 + (t : Int))) (fun _ => false) (fun _ => .int 1) trivial _ _ (by simp; omega) ?_ ?_
        · intro t ht acc W hacc hW
          have ht := List.mem_range.mp ht
          have hW : W acc M := by simpa using hW
          try wide_line
          rcases Nat.eq_zero_or_pos t with t0 | t0
          · subst t0
            refine at_last gl ?_
            have r := iterV_rng g x1 x2 (d - 1)
            refine ⟨ks, _, rfl, g.len, g.inc, hvl, bx (d - 1) (by omega), r.1, r.2, ?_⟩
            refine atK_of (n := 0) rfl (gw 0 (by omega)) ?_
            refine enc_fr.gNe ?_
            have : valK ks (iterV ks (d - 1) x) = iterV ks 0 x := by
              have h : iterV ks (d - 1 + 1) x = valK ks (iterV ks (d - 1) x) := rfl
              rw [← h, show d - 1 + 1 = d by omega]
              exact fx
            rw [decide_eq_true this]
            try wide_line
            exact hW
          · refine atK_of (n := t - 1) (by omega) (gw (t - 1) (by omega)) ?_
            have r := iterV_rng g x1 x2 (t - 1)
            refine ⟨ks, _, rfl, g.len, g.inc, hvl, bx (t - 1) (by omega), r.1, r.2, ?_⟩
            refine atK_of (n := t) (by omega) (gw t ht) ?_
            refine enc_fr.gNe ?_
            have : valK ks (iterV ks (t - 1) x) = iterV ks t x := by
              have h : iterV ks (t - 1 + 1) x = valK ks (iterV ks (t - 1) x) := rfl
              rw [← h, show t - 1 + 1 = t by omega]
            rw [decide_eq_true this]
            try wide_line
            exact hW
        rw [List.nil_append, show ((List.range d).filter fun _ => false) = [] by simp, List.map_nil]
        refine enc_nil (f := D.int) (g := PyData.int) (n := 1) enc_int.py (xs := []) ?_
        wide_line with t_law_singles_right_s6
        generalize wayR ks x d = w at *
        refine ⟨⟨_, hF⟩, ?_⟩
        refine lc_map fr (fun y => decide (y ∈ singL ps)) fr trivial _ _ (by simp; omega) ?_ ?_
        · intro y hy acc W hacc hW
          try wide_line
          by_cases dn' : d = n
          · rw [decide_eq_true (hin dn' y hy), if_pos rfl] at hW
            rw [if_pos (by omega)]
            exact ⟨hacc, hW⟩
          · rw [if_neg (by omega)]
            refine enc_in_ref enc_fr hA ?_
            rw [Bool.false_xor]
            try wide_line
            split
            · rename_i q
              rw [if_pos (by simpa using q)] at hW
              exact ⟨hacc, hW⟩
            · rename_i q
              rw [if_neg (by simpa using q)] at hW
              exact hW
        wide_line with hF
        have k1 := List.length_filter_le (fun x => decide (x ∈ singL ps)) (foundK ks n j ++ dn.flatten)
        have k2 := List.length_filter_le (fun x => decide (x ∈ singL ps)) w
        refine ⟨?_, ?_⟩
        · rw [List.nil_append, List.length_map, List.length_map]
          rw [List.length_append] at k1
          omega
        · refine hnx3 _ _ ⟨dn ++ [w], _, by rw [e]; simp, rfl, ?_, ?_, hSub.wrB (mput_none hf).2⟩
          · rw [mput_ne haf]
            exact hA
          · rw [mput_same, List.nil_append, ← List.map_append, ← List.filter_append]
            simp
    · rw [if_neg (by omega)]
      rw [if_neg c, List.append_nil] at fj
      exact hnx _ _ ⟨_, _, rfl, hA, by rw [fj]; exact hF, hSub⟩

/-! ### law -/
def t_law_s12 : DTS :=
  (sIf (tBool (dNe (dNew (nSgn (nListOf (dCall sp_come_round (aCons (dVar 8) (aCons (dVar 5) aNil)))) (oSome (dNeg (dC (.int 1)))))) (dCall sp_law_mirrored (aCons (dVar 6) aNil)))) (sRet (dC (.bl false))) sNext)
def t_law_s11 : DTS :=
  (sSeq (sIf (tBool (dNN (gEqNN true) (nSortedD (dCall sp_rounds_of (aCons (dVar 8) (aCons (dVar 5) aNil)))) (nSortedD (dCall sp_law_mirrored (aCons (dCall sp_rounds_of (aCons (dVar 3) (aCons (dVar 5) aNil))) aNil))))) (sRet (dC (.bl false))) sNext) t_law_s12)
def t_law_s10 : DTS :=
  (sSeq (sSet 8 (dStep (dTupN (nLc (iRow (dVar 3)) (gTup' 2 (gCons' (gName' 9) (gCons' (gName' 10) gNil'))) tYes' (dTup (aCons (dTup (aCons (dSub (dC (.int 0)) (dIx (dVar 9) (dC (.int 0)))) (aCons (dIx (dVar 9) (dC (.int 1))) aNil))) (aCons (dTup (aCons (dSub (dC (.int 0)) (dIx (dVar 10) (dC (.int 0)))) (aCons (dIx (dVar 10) (dC (.int 1))) aNil))) aNil))) [9, 10])) (oSome (dNeg (dC (.int 1)))))) t_law_s11)
def t_law_s9 : DTS :=
  (sSeq (sIf (tAnd' (tBool (dLt (dB gLen (aCons (dVar 7) aNil)) (dC (.int 41)))) (tNot' (tBool (dCall sp_law_longer_right (aCons (dVar 7) (aCons (dVar 6) aNil)))))) (sRet (dC (.bl false))) sNext) t_law_s10)
def t_law_s8 : DTS :=
  (sSeq (sSet 7 (dCall sp_turned (aCons (dVar 3) (aCons (dVar 5) aNil)))) t_law_s9)
def t_law_s7 : DTS :=
  (sSeq (sIf (tOr' (tNot' (tBool (dCall sp_law_round_right (aCons (dVar 3) (aCons (dVar 6) (aCons (dVar 5) aNil)))))) (tNot' (tBool (dCall sp_law_singles_right (aCons (dVar 3) (aCons (dVar 6) (aCons (dVar 5) aNil))))))) (sRet (dC (.bl false))) sNext) t_law_s8)
def t_law_s6 : DTS :=
  (sSeq (sSet 6 (dCall sp_come_round (aCons (dVar 3) (aCons (dVar 5) aNil)))) t_law_s7)
def t_law_s5 : DTS :=
  (sSeq (sSet 5 (dCall sp_law_many (aCons (dVar 2) (aCons (dSub (dB gLen (aCons (dVar 4) aNil)) (dC (.int 1))) aNil)))) t_law_s6)
def t_law_s4 : DTS :=
  (sSeq (sSet 4 (dCall sp_law_bends (aCons (dVar 3) aNil))) t_law_s5)
def t_law_s3 : DTS :=
  (sSeq (sIf (tBool (dEq (dCall sp_law_draw (aCons (dVar 2) (aCons (dC (.int 2)) aNil))) (dC (.int 0)))) (sSet 3 (dCall sp_law_filled (aCons (dVar 2) (aCons (dVar 3) aNil)))) sNext) t_law_s4)
def t_law_s2 : DTS :=
  (sSeq (sSet 3 (dCall sp_law_map (aCons (dVar 2) (aCons (dIxN (nLst (aCons (dC (.int 8)) (aCons (dC (.int 3)) (aCons (dC (.int 4)) (aCons (dC (.int 6)) aNil))))) (dCall sp_law_draw (aCons (dVar 2) (aCons (dC (.int 4)) aNil)))) aNil)))) t_law_s3)
def t_law_b1 : DTS :=
  (sSeq (sSet 2 (dCall sp_law_seed (aCons (dVar 1) aNil))) t_law_s2)
def t_law_s13 : DTS :=
  (sRet (dC (.bl true)))
def t_law : DTS :=
  (sSeq (sFor (iNew (nCutN (nCatXN (dVar 0) (nLst (aCons (dCall sp_law_folded (aCons (dVar 0) aNil)) aNil))) oNone (oSome (dC (.int 1))))) (gName' 1) t_law_b1) t_law_s13)
def sp_law : DSp := fun ds m R _ => ∃ (ns : List Int), ds = [.rl (ns.map D.int)] ∧ ns.length ≤ 63 ∧ ∀ m', R (.bl true) m'
theorem len_law : ∀ ds m R E, sp_law ds m R E → ds.length = (["script"] : List Str).length := by
  rintro ds m R E ⟨ns, rfl, _⟩
  rfl
theorem law_sp (ns : List Int) (hl : ns.length ≤ 63) (hb : ∀ z ∈ ns, Builtin.Int.intBits z ≤ 1048576) : sp_law [.rl (ns.map D.int)] (fun _ => none) (fun d _ => d = .bl true) X0 :=
  ⟨ns, rfl, hl, fun _ => rfl⟩
theorem MpA.rdf {ks : List Kn} (h : MpA ks) (h8 : ks.length ≤ 8) {n : Nat} (hn : n ≤ 7) : ∃ be : Nat, 0 < be ∧ be ≤ 2 ^ 224 ∧ PF1 be (2 ^ 58) ks ∧ ∀ k ∈ noughtsK (stayR (turnK ks n)), (loK ks ≤ k.1 ∧ k.1 ≤ hiK ks ∧ DF be (2 * 2 ^ 406) k.1) ∧ (loK ks ≤ k.2 ∧ k.2 ≤ hiK ks ∧ DF be (2 * 2 ^ 406) k.2) := by
  obtain ⟨be, b1, b2, p⟩ := h.pf1 h8
  have g := h.good
  have gt := turnK_good g n
  have pf := (turnK_pf g p b1 (by decide) n).mono (pow58 hn)
  refine ⟨be, b1, b2, p, ?_⟩
  refine noughts_all (P := fun x => loK ks ≤ x ∧ x ≤ hiK ks ∧ DF be (2 * 2 ^ 406) x) (fun k hk => ?_) fun w hw hne hs => ?_
  · rw [stayR_map] at hk
    obtain ⟨z, hz, rfl⟩ := List.mem_map.mp hk
    have r := gt.le hz
    exact ⟨r.1, r.2, (pf.kn z hz).1.mono (Nat.le_mul_of_pos_left _ (by decide))⟩
  · rw [stayR_map, pairs_map] at hw
    obtain ⟨w, hw2, rfl⟩ := List.mem_map.mp hw
    have hlt := pairs_lt gt.inc hw2
    have r := pc_met (b := stK w.1) (e := stK w.2) hlt hne hs
    have r1 := gt.le (pairs_mem hw2).1
    have r2 := gt.le (pairs_mem hw2).2
    have q1 : w.1.1 ≤ metK (stK w.1) (stK w.2) 0 := r.1
    have q2 : metK (stK w.1) (stK w.2) 0 ≤ w.2.1 := r.2
    exact ⟨by grind, by grind, met_df b1 hlt (pf.pc w hw2) hne⟩
theorem df_half {be V : Nat} {x y : Rat} (hx : DF be V x) (hy : DF be V y) : DF be (2 * (V * V)) ((x + y) / 2) := by
  obtain ⟨u, v, v0, vV, e⟩ := hx
  obtain ⟨u', v', v0', vV', e'⟩ := hy
  refine ⟨u * v' + u' * v, 2 * (v * v'), Nat.mul_pos (by decide) (Nat.mul_pos v0 v0'), Nat.mul_le_mul_left 2 (Nat.mul_le_mul vV vV'), ?_⟩
  have e1 : ((2 * (v * v') : Nat) : Rat) = 2 * ((v : Rat) * (v' : Rat)) := by push_cast; rfl
  have e2 : ((u * v' + u' * v : Int) : Rat) = (u : Rat) * (v' : Rat) + (u' : Rat) * (v : Rat) := by push_cast; rfl
  rw [e1, e2, ← e, ← e']
  have h2 : (x + y) / 2 * 2 = x + y := Rat.div_mul_cancel (by decide)
  grind
theorem MpA.told {ks : List Kn} (h : MpA ks) (h8 : ks.length ≤ 8) {n : Nat} (hn : n ≤ 7) (hl : (noughtsK (stayR (turnK ks n))).length ≤ 1000) : ToldR ks n (noughtsK (stayR (turnK ks n))) := by
  have g := h.good
  obtain ⟨be, b1, b2, p, key⟩ := h.rdf h8 hn
  have e := h.ends
  refine ⟨(stays_in (turnK_good g n)).1, fun x => (fix_iff g).symm, fun k hk x hx j hj => ?_, hl⟩
  obtain ⟨⟨k1, k2, k3⟩, m1, m2, m3⟩ := key k hk
  have q : loK ks ≤ x ∧ x ≤ hiK ks ∧ DF be (2 ^ 815) x := by
    have h1 : 2 * 2 ^ 406 ≤ 2 ^ 815 := by rw [← Nat.pow_succ']; exact Nat.pow_le_pow_right (by decide) (by decide)
    have h2 : 2 * (2 * 2 ^ 406 * (2 * 2 ^ 406)) = 2 ^ 815 := by rw [← Nat.pow_succ', ← Nat.pow_add, ← Nat.pow_succ']
    rcases hx with rfl | rfl | rfl
    · exact ⟨k1, k2, k3.mono h1⟩
    · exact ⟨m1, m2, m3.mono h1⟩
    · exact ⟨by grind, by grind, (df_half k3 m3).mono (Nat.le_of_eq h2)⟩
  have d := iter_df g p b1 q.1 q.2.1 q.2.2 j
  have r := iterV_rng g q.1 q.2.1 j
  refine d.bd (m := 1221) (r := 14) b1 b2 ?_ (by grind) (by grind) (by decide)
  have h1 : (2 ^ 58) ^ j ≤ 2 ^ 406 := pow58 hj
  have h2 := Nat.mul_le_mul_left (2 ^ 815) h1
  rw [← Nat.pow_add] at h2
  exact h2
theorem mir_len {ks : List Kn} (g : Good (loK ks) (hiK ks) ks) : (leastK (mirK ks)).length ≤ (leastK ks).length := by
  have gl := g.least
  have h1 := mirK_good g
  have h2 := mirK_good gl
  have e : leastK (mirK ks) = leastK (mirK (leastK ks)) := least_uniq h1 h2 fun t t1 t2 => by
    rw [mirK_val g t1 t2, mirK_val gl t1 t2, val_least g.inc]
  rw [e]
  refine Nat.le_trans (leastK_le _) ?_
  unfold mirK
  rw [List.length_reverse, List.length_map]
  exact Nat.le_refl _
theorem rd_law : ∀ ds m R E, sp_law ds m R E → t_law (dends R) (dstart 11 ds) m := by
  rintro ds m R E ⟨ns, rfl, hl, hR⟩
  show t_law (dends R) [some (.rl (ns.map D.int)), none, none, none, none, none, none, none, none, none, none] m
  have hsl := sizeLine_eq
  wide_line with (t_law, u_nCatXN)
  refine ⟨ns, rfl, hl, fun v => ?_⟩
  wide_line with catK_rl
  refine ⟨by simp [sizeLine_eq]; omega, ?_⟩
  have ecs : ns.map D.int ++ [D.int v] = (ns ++ [v]).map D.int := by simp
  rw [ecs, cutD_take (by decide)]
  refine for_ind D.int (fun _ r m' => ∃ q1 q2 q3 q4 q5 q6 q7 q8, r = [some (.rl (ns.map D.int)), q1, q2, q3, q4, q5, q6, q7, q8, none, none]) ?_ ?_ _ _ _ ⟨_, _, _, _, _, _, _, _, rfl⟩
  · rintro r m' ⟨q1, q2, q3, q4, q5, q6, q7, q8, rfl⟩
    refine ⟨trivial, ?_⟩
    wide_line with t_law_s13
    exact fin_of (hR _)
  · rintro cell cells nx hnx r m' ⟨q1, q2, q3, q4, q5, q6, q7, q8, rfl⟩
    refine ⟨trivial, ?_⟩
    wide_line with t_law_b1
    intro a o ha ho
    have hs : isSeed (mput m' a o a) := by rw [mput_same]; exact ho
    generalize mput m' a o = m2 at hs ⊢
    wide_line with t_law_s2
    refine draw_ext hs (by omega) (by omega) fun w m3 hs hx w0 w1 => ?_
    refine at_ints (ns := [8, 3, 4, 6]) w0 w1 fun z hz => ?_
    obtain ⟨most, rfl, hm2, hm8⟩ : ∃ most : Nat, z = most ∧ 2 ≤ most ∧ most ≤ 8 := by
      refine ⟨z.toNat, ?_, ?_, ?_⟩ <;> simp at hz <;> omega
    refine ⟨a, most, rfl, hs, hm2, hm8, fun ks m4 hK hkl hs hx => ?_⟩
    -- the rest, for whichever map
    have rest : ∀ (ks : List Kn) (q4 q5 q6 q7 q8 : Option D) (M : Mu), MpA ks → ks.length ≤ 8 → isSeed (M a) → t_law_s4 { nx := nx, rt := fin R, bk := t_law_s13 { nx := fun x m => fin R D.non m, rt := fin R }, ct := nx } [some (.rl (ns.map D.int)), some (.int cell), some (.ref a), some (mapD ks), q4, q5, q6, q7, q8, none, none] M := by
      intro ks q4 q5 q6 q7 q8 M hK hkl hs
      have g := hK.good
      have hL := hK.least
      have l2 := leastK_len g.len
      have l8 : (leastK ks).length ≤ 8 := Nat.le_trans (leastK_le ks) hkl
      wide_line with t_law_s4
      refine ⟨ks, rfl, g.len, by omega, g.inc, hK.bd.mono (by decide), fun f hf => ?_⟩
      have fa := seed_ne hs hf
      have hs := seed_put (o := .lst ((leastK ks).map knD)) hs fa
      have hF : mput M f (.lst ((leastK ks).map knD)) f = some (.lst ((leastK ks).map knD)) := mput_same
      generalize mput M f (.lst ((leastK ks).map knD)) = M1 at hs hF ⊢
      wide_line with (t_law_s5, hF)
      refine ⟨a, (leastK ks).length - 1, by rw [List.length_map]; simp; omega, hs, by omega, by omega, fun n M2 n1 n7 hpw hs hx2 => ?_⟩
      have tl : ∀ d, d ≤ n → (turnK ks d).length ≤ 1000 := by
        intro d hd
        have h1 := turnK_pieces hL.good d
        rw [turnK_least g] at h1
        have h2 : ((leastK ks).length - 1) ^ d ≤ ((leastK ks).length - 1) ^ n := Nat.pow_le_pow_right (by omega) hd
        omega
      have hS : ∀ d, 1 ≤ d → d ≤ n → RnS ks d := fun d d1 d2 => hK.rns hkl (by omega) (tl d d2)
      have hSn := hS n n1 (Nat.le_refl n)
      have hround := hK.round hkl n7
      have hcan := (stays_in (turnK_good g n)).1
      wide_line with t_law_s6
      refine ⟨ks, n, rfl, hSn, ?_⟩
      wide_line with t_law_s7
      have lps : (noughtsK (stayR (turnK ks n))).length ≤ 1000 := by
        have h1 := noughts_len (stayR (turnK ks n))
        have h2 : (stayR (turnK ks n)).length = (turnK ks n).length := by unfold stayR; rw [List.length_map]
        have := tl n (Nat.le_refl n)
        omega
      refine ⟨ks, _, n, rfl, hK, n1, n7, hK.told hkl n7 lps, fun M3 hx3 => ?_⟩
      try wide_line
      refine ⟨ks, n, rfl, n1, n7, hS, fun M4 hx4 => ?_⟩
      try wide_line
      wide_line with t_law_s8
      refine ⟨ks, n, rfl, hSn.toTurS, ?_⟩
      have gt := turnK_good g n
      have lT := tl n (Nat.le_refl n)
      have sT := hK.sz hkl n7
      have hmT : leastK (turnK ks n) = turnK ks n := by
        obtain ⟨n', rfl⟩ : ∃ k, n = k + 1 := ⟨n - 1, by omega⟩
        exact least_least ((turnK_beh g n').good (turnK_good g n') g).inc
      have bL : Bd 14 (loK ks) := by
        obtain ⟨k, hk, e⟩ := loK_mem g.ne
        rw [← e]
        exact (hK.bd k hk).1
      have bU : Bd 14 (hiK ks) := by
        obtain ⟨k, hk, e⟩ := hiK_mem g.ne
        rw [← e]
        exact (hK.bd k hk).1
      have rT : RnS (turnK ks n) 1 := sT.rns bL bU lT hmT fun p hp x hx => by
        obtain ⟨q1, q2, q3⟩ := hround p hp x hx
        exact ⟨q1, q2, (q3 0 (by omega)).mono (by decide)⟩
      -- behind the longer map
      have gm := hK.mir
      have mlen : (mirK ks).length = ks.length := by unfold mirK; rw [List.length_reverse, List.length_map]
      have tlm : (turnK (mirK ks) n).length ≤ 1000 := by
        have h1 := turnK_pieces gm.least.good n
        rw [turnK_least gm.good] at h1
        have h2 := mir_len g
        have h3 : ((leastK (mirK ks)).length - 1) ^ n ≤ ((leastK ks).length - 1) ^ n := Nat.pow_le_pow_left (by omega) n
        omega
      have hSm := gm.rns (by omega) n7 tlm
      have hperm := mir_rds g n1
      have hmr := mir_round g n
      have rl := rdsK_len ks n
      have hrow : ∀ w ∈ rdsK ks n, 1 ≤ w.length ∧ w.length ≤ 7 ∧ ∀ x ∈ w, Bd 1500 x := by
        intro w hw
        obtain ⟨p, hp, rfl⟩ := rdsK_mem hw
        rw [wayR_len]
        refine ⟨n1, n7, fun x hx => ?_⟩
        obtain ⟨j, hj, rfl⟩ := mem_wayR.mp hx
        exact ((hround p hp p.1 (.inl rfl)).2.2 j (by omega)).mono (by decide)
      have last : ∀ (M : Mu), t_law_s10 { nx := nx, rt := fin R, bk := t_law_s13 { nx := fun x m => fin R D.non m, rt := fin R }, ct := nx } [some (.rl (ns.map D.int)), some (.int cell), some (.ref a), some (mapD ks), some (.ref f), some (.int n), some (mapD (noughtsK (stayR (turnK ks n)))), some (mapD (turnK ks n)), q8, none, none] M := by
        intro M
        wide_line with t_law_s10
        refine lc_map knD (fun _ => true) (fun k => knD (-k.1, -k.2)) trivial _ _ (by simp; omega) (fun k hk acc W hacc hW => ?_) ?_
        · rw [if_pos rfl] at hW
          wide_line with (knD, fr)
          refine ⟨hacc, ?_⟩
          have e : knD (-k.1, -k.2) = D.tup [D.tup [D.int (0 - k.1.num), D.int (k.1.den : Nat)], D.tup [D.int (0 - k.2.num), D.int (k.2.den : Nat)]] := by
            rw [fr_negD, fr_negD]
            rfl
          rw [e] at hW
          exact hW
        rw [filter_yes, List.nil_append, stepD_rev]
        refine ⟨by decide, by decide, by simp; omega, ?_⟩
        have e : (ks.map fun k => knD (-k.1, -k.2)).reverse = (mirK ks).map knD := by
          unfold mirK
          rw [List.map_reverse, List.map_map]
          rfl
        rw [e]
        wide_line with (t_law_s11, u_nSortedD)
        refine ⟨mirK ks, n, rfl, n1, hSm, ?_⟩
        have er : ∀ ws : List (List Rat), rdD ws = .tup (ws.map rowD) := fun _ => rfl
        have ne1 : ∀ w ∈ (rdsK ks n).map turnL, w ≠ [] := by
          intro w hw e
          have hw2 := hperm.mem_iff.mpr hw
          obtain ⟨p, _, e2⟩ := rdsK_mem hw2
          have := congrArg List.length e2
          rw [e, wayR_len] at this
          simp at this
          omega
        have q2 := sorted_rows ne1
        have q1 := sorted_rows (rows := rdsK (mirK ks) n) fun w hw => ne1 w (hperm.mem_iff.mp hw)
        rw [er]
        show sortK M (.tup ((rdsK (mirK ks) n).map rowD)) _
        rw [sortK_tup]
        refine gSorted_of enc_row q1.1 q1.2 ?_
        try wide_line
        refine ⟨ks, n, rfl, n1, hSn, ?_⟩
        refine ⟨rdsK ks n, rfl, by omega, hrow, fun u hu => ?_⟩
        wide_line with (sortK_ref, mput_same)
        refine gSorted_of enc_row q2.1 q2.2 ?_
        have es := sort_perm (g := fun w : List Rat => PyData.tuple (w.map frP)) hperm fun a _ b _ h => (pfx_list pfx_fr).inj h
        refine enc_eqNN enc_row ?_
        rw [decide_eq_true es]
        wide_line with t_law_s12
        refine ⟨mirK ks, n, rfl, hSm, ?_⟩
        rw [hmr]
        have e5 : mapD (mirP (noughtsK (stayR (turnK ks n)))) = .tup ((mirP (noughtsK (stayR (turnK ks n)))).map knD) := rfl
        rw [e5]
        try wide_line
        refine .inr fun u2 hu2 => ?_
        have e6 : (mirP (noughtsK (stayR (turnK ks n)))).reverse.map knD = (((noughtsK (stayR (turnK ks n))).map fun p => [p.1, p.2]).map turnL).map rowD := by
          rw [mirP_rows hcan, List.map_map]
          rfl
        refine ⟨(noughtsK (stayR (turnK ks n))).map fun p => [p.1, p.2], by unfold rdD mapD; rw [List.map_map]; rfl, by rw [List.length_map]; exact lps, fun w hw => ?_, fun u3 hu3 => ?_⟩
        · obtain ⟨p, hp, rfl⟩ := List.mem_map.mp hw
          refine ⟨by simp, by simp, fun x hx => ?_⟩
          have hx : x = p.1 ∨ x = p.2 := by simpa using hx
          exact ((hround p hp x hx).2.2 0 (by omega)).mono (by decide)
        · have h23 : u2 ≠ u3 := ne_of mput_same hu3
          refine enc_ref_ne enc_row (xs := ((noughtsK (stayR (turnK ks n))).map fun p => [p.1, p.2]).map turnL) (ys := ((noughtsK (stayR (turnK ks n))).map fun p => [p.1, p.2]).map turnL) ?_ mput_same ?_
          · rw [mput_ne h23, mput_same, ← e6, List.map_reverse]
          · rw [decide_eq_true rfl]
            try wide_line
            exact hnx _ _ ⟨_, _, _, _, _, _, _, _, rfl⟩
      wide_line with t_law_s9
      by_cases c : (turnK ks n).length < 41
      · rw [if_pos (by omega)]
        refine ⟨turnK ks n, rfl, rT, by omega, sT.bd, hmT, ?_⟩
        try wide_line
        exact last _
      · rw [if_neg (by omega)]
        exact last _
    wide_line with t_law_s3
    refine draw_ext hs (by omega) (by omega) fun w m5 hs hx w0 w1 => ?_
    try wide_line
    split
    · refine ⟨a, ks, rfl, hs, hK, by omega, fun ks' m6 hK' hl' _ _ _ hs hx => ?_⟩
      exact rest ks' _ _ _ _ _ m6 hK' hl' hs
    · exact rest ks _ _ _ _ _ m5 hK (by omega) hs

end DL

namespace DL
open PySem PySem.Spec PyProof.Rows L2
def topS (i : Nat) : Stmt := PySem.Challenge.pw_bentstretch_k18_whole_rounds.main.body.getD i (.Pass ⟨0, 0, 0, 0⟩)
structure Top (K : PySem.W.Frag) (mg : Str → Option Value) : Prop where
  a_law_fraction : At K mg "_law_fraction" "_law_fraction" (topS 35)
  a_law_plus : At K mg "_law_plus" "_law_plus" (topS 36)
  a_law_less : At K mg "_law_less" "_law_less" (topS 38)
  a_law_times : At K mg "_law_times" "_law_times" (topS 37)
  a_law_bends : At K mg "_law_bends" "_law_bends" (topS 45)
  a_law_draw : At K mg "_law_draw" "_law_draw" (topS 34)
  a_law_over : At K mg "_law_over" "_law_over" (topS 39)
  a_law_filled : At K mg "_law_filled" "_law_filled" (topS 44)
  a_law_folded : At K mg "_law_folded" "_law_folded" (topS 32)
  a_frac : At K mg "frac" "frac" (topS 1)
  a_frac_less : At K mg "frac_less" "frac_less" (topS 3)
  a_frac_side : At K mg "frac_side" "frac_side" (topS 6)
  a_frac_over : At K mg "frac_over" "frac_over" (topS 5)
  a_frac_plus : At K mg "frac_plus" "frac_plus" (topS 2)
  a_frac_times : At K mg "frac_times" "frac_times" (topS 4)
  a_met_at : At K mg "met_at" "met_at" (topS 19)
  a_neighbours : At K mg "neighbours" "neighbours" (topS 17)
  a_put_to : At K mg "put_to" "put_to" (topS 18)
  a_noughts_of : At K mg "noughts_of" "noughts_of" (topS 20)
  a_stays_of : At K mg "stays_of" "stays_of" (topS 21)
  a_is_amid : At K mg "is_amid" "is_amid" (topS 23)
  a_slope_between : At K mg "slope_between" "slope_between" (topS 12)
  a_knots_amid : At K mg "knots_amid" "knots_amid" (topS 24)
  a_least_knots : At K mg "least_knots" "least_knots" (topS 14)
  a_value_of : At K mg "value_of" "value_of" (topS 13)
  a_put_behind : At K mg "put_behind" "put_behind" (topS 25)
  a_turned : At K mg "turned" "turned" (topS 26)
  a_come_round : At K mg "come_round" "come_round" (topS 28)
  a_round_from : At K mg "round_from" "round_from" (topS 29)
  a_rounds_of : At K mg "rounds_of" "rounds_of" (topS 30)
  a_law_longer_right : At K mg "_law_longer_right" "_law_longer_right" (topS 53)
  a_law_many : At K mg "_law_many" "_law_many" (topS 46)
  a_law_at : At K mg "_law_at" "_law_at" (topS 41)
  a_law_side : At K mg "_law_side" "_law_side" (topS 40)
  a_law_put_at : At K mg "_law_put_at" "_law_put_at" (topS 42)
  a_law_map : At K mg "_law_map" "_law_map" (topS 43)
  a_law_mirrored : At K mg "_law_mirrored" "_law_mirrored" (topS 52)
  a_law_after : At K mg "_law_after" "_law_after" (topS 47)
  a_law_lies : At K mg "_law_lies" "_law_lies" (topS 49)
  a_law_middle : At K mg "_law_middle" "_law_middle" (topS 48)
  a_law_round_right : At K mg "_law_round_right" "_law_round_right" (topS 50)
  a_law_seed : At K mg "_law_seed" "_law_seed" (topS 33)
  a_law_singles_right : At K mg "_law_singles_right" "_law_singles_right" (topS 51)
  a_law : At K mg "law" "law" (topS 54)
  b_abs : mg "abs" = none
  b_int : mg "int" = none
  b_len : mg "len" = none
  b_list : mg "list" = none
  b_max : mg "max" = none
  b_range : mg "range" = none
  b_sorted : mg "sorted" = none
  b_tuple : mg "tuple" = none
  b_zip : mg "zip" = none
  g_NOUGHT : ∃ a, mg "NOUGHT" = some (.ref a) ∧ TupC K a [.int 0, .int 1]
section
variable {P : Program} {w : World} {K : PySem.W.Frag} {mg : Str → Option Value} {base : Heap}
abbrev s_law_fraction : Stmt := topS 35
theorem sc_law_fraction : FnScope ["upper", "below", "one", "other"] ["upper", "below"] (defScope s_law_fraction) := ⟨rfl, rfl, rfl, by decide +kernel, rfl, by decide +kernel, by decide +kernel⟩
theorem ok_law_fraction (T : Top K mg) : Def P w K mg base "_law_fraction" 1 ["upper", "below"] sp_law_fraction := by
  refine def_mk (t := t_law_fraction) T.a_law_fraction sc_law_fraction (fun _ _ _ _ _ _ us hl => match us, hl with | [_, _], _ => rfl) len_law_fraction (fun f cdv A outer s H E hr => ?_) rd_law_fraction
  exact (ds_cons (ds_set (i := 2) sc_law_fraction.nd rfl (by first | exact Or.inl rfl | exact Or.inr rfl) (de_max2 (by rfl) (by rfl) T.b_max (da_cons (de_var 0) (da_cons (de_sub de_int (de_var 0)) da_nil))))
      (ds_cons (ds_set (i := 3) sc_law_fraction.nd rfl (by first | exact Or.inl rfl | exact Or.inr rfl) (de_var 1))
      (ds_cons (ds_while PassesOwn.never (dt_gt (de_var 3) de_int) (ds_one (ds_par (i := 2) (j := 3) (by rfl) sc_law_fraction.nd rfl rfl (by decide) rfl rfl (de_var 3) (de_mod (de_var 2) (de_var 3)))))
      (ds_one (ds_ret (de_tup (da_cons (de_div (de_var 0) (de_var 2)) (da_cons (de_div (de_var 1) (de_var 2)) da_nil))))))))

abbrev s_law_plus : Stmt := topS 36
theorem sc_law_plus : FnScope ["one", "other"] ["one", "other"] (defScope s_law_plus) := ⟨rfl, rfl, rfl, by decide +kernel, rfl, by decide +kernel, by decide +kernel⟩
theorem ok_law_plus (T : Top K mg) (G_law_fraction : Def P w K mg base "_law_fraction" 1 ["upper", "below"] sp_law_fraction) : Def P w K mg base "_law_plus" 2 ["one", "other"] sp_law_plus := by
  refine def_mk (t := t_law_plus) T.a_law_plus sc_law_plus (fun _ _ _ _ _ _ us hl => match us, hl with | [_, _], _ => rfl) len_law_plus (fun f cdv A outer s H E hr => ?_) rd_law_plus
  exact (ds_one (ds_ret (de_callD G_law_fraction (hr.mono (by decide)) (by rfl) (da_cons (de_add (de_mul (de_at (de_var 0) de_int) (de_at (de_var 1) de_int)) (de_mul (de_at (de_var 1) de_int) (de_at (de_var 0) de_int))) (da_cons (de_mul (de_at (de_var 0) de_int) (de_at (de_var 1) de_int)) da_nil)))))

abbrev s_law_less : Stmt := topS 38
theorem sc_law_less : FnScope ["one", "other"] ["one", "other"] (defScope s_law_less) := ⟨rfl, rfl, rfl, by decide +kernel, rfl, by decide +kernel, by decide +kernel⟩
theorem ok_law_less (T : Top K mg) (G_law_plus : Def P w K mg base "_law_plus" 2 ["one", "other"] sp_law_plus) : Def P w K mg base "_law_less" 3 ["one", "other"] sp_law_less := by
  refine def_mk (t := t_law_less) T.a_law_less sc_law_less (fun _ _ _ _ _ _ us hl => match us, hl with | [_, _], _ => rfl) len_law_less (fun f cdv A outer s H E hr => ?_) rd_law_less
  exact (ds_one (ds_ret (de_callD G_law_plus (hr.mono (by decide)) (by rfl) (da_cons (de_var 0) (da_cons (de_tup (da_cons (de_sub de_int (de_at (de_var 1) de_int)) (da_cons (de_at (de_var 1) de_int) da_nil))) da_nil)))))

abbrev s_law_times : Stmt := topS 37
theorem sc_law_times : FnScope ["one", "other"] ["one", "other"] (defScope s_law_times) := ⟨rfl, rfl, rfl, by decide +kernel, rfl, by decide +kernel, by decide +kernel⟩
theorem ok_law_times (T : Top K mg) (G_law_fraction : Def P w K mg base "_law_fraction" 1 ["upper", "below"] sp_law_fraction) : Def P w K mg base "_law_times" 2 ["one", "other"] sp_law_times := by
  refine def_mk (t := t_law_times) T.a_law_times sc_law_times (fun _ _ _ _ _ _ us hl => match us, hl with | [_, _], _ => rfl) len_law_times (fun f cdv A outer s H E hr => ?_) rd_law_times
  exact (ds_one (ds_ret (de_callD G_law_fraction (hr.mono (by decide)) (by rfl) (da_cons (de_mul (de_at (de_var 0) de_int) (de_at (de_var 1) de_int)) (da_cons (de_mul (de_at (de_var 0) de_int) (de_at (de_var 1) de_int)) da_nil)))))

abbrev s_law_bends : Stmt := topS 45
theorem sc_law_bends : FnScope ["knots", "found", "k", "back", "on", "side"] ["knots"] (defScope s_law_bends) := ⟨rfl, rfl, rfl, by decide +kernel, rfl, by decide +kernel, by decide +kernel⟩
theorem ok_law_bends (T : Top K mg) (G_law_less : Def P w K mg base "_law_less" 3 ["one", "other"] sp_law_less) (G_law_times : Def P w K mg base "_law_times" 2 ["one", "other"] sp_law_times) : Def P w K mg base "_law_bends" 4 ["knots"] sp_law_bends := by
  refine def_mk (t := t_law_bends) T.a_law_bends sc_law_bends (fun _ _ _ _ _ _ us hl => match us, hl with | [_], _ => rfl) len_law_bends (fun f cdv A outer s H E hr => ?_) rd_law_bends
  exact (ds_cons (ds_setN (i := 1) sc_law_bends.nd rfl (by first | exact Or.inl rfl | exact Or.inr rfl) (dn_lst (da_cons (de_at (de_var 0) de_int) da_nil)))
      (ds_cons (ds_for PassesOwn.never (by rfl) (di_range2 (by rfl) T.b_range de_int (de_sub (de_len (by rfl) T.b_len (da_cons (de_var 0) da_nil)) de_int)) (dg_name (i := 2) sc_law_bends.nd rfl (by first | exact Or.inl rfl | exact Or.inr rfl)) (ds_cons (ds_setLc (i := 3) (own := [("side", 5)]) (by rfl) sc_law_bends.nd rfl rfl (sw_true rfl rfl rfl (by decide +kernel)) (di_row (de_tup (da_cons de_int (da_cons de_int da_nil)))) (blkOk_by (show blkC ["knots", "found", "k", "back", "on", "side"] (defScope s_law_bends) _ _ = true by decide +kernel)) (fun _ _ _ _ _ => (dgw_name (i := 5) sc_law_bends.nd rfl (by first | exact Or.inl rfl | exact Or.inr rfl))) (fun _ _ _ _ _ => dts_nil) (fun _ _ _ _ _ => (de_callD G_law_less (hr.mono (by decide)) (by rfl) (da_cons (de_at (de_at (de_var 0) (de_var 2)) (de_var 5)) (da_cons (de_at (de_at (de_var 1) (de_neg de_int)) (de_var 5)) da_nil)))))
      (ds_cons (ds_setLc (i := 4) (own := [("side", 5)]) (by rfl) sc_law_bends.nd rfl rfl (sw_true rfl rfl rfl (by decide +kernel)) (di_row (de_tup (da_cons de_int (da_cons de_int da_nil)))) (blkOk_by (show blkC ["knots", "found", "k", "back", "on", "side"] (defScope s_law_bends) _ _ = true by decide +kernel)) (fun _ _ _ _ _ => (dgw_name (i := 5) sc_law_bends.nd rfl (by first | exact Or.inl rfl | exact Or.inr rfl))) (fun _ _ _ _ _ => dts_nil) (fun _ _ _ _ _ => (de_callD G_law_less (hr.mono (by decide)) (by rfl) (da_cons (de_at (de_at (de_var 0) (de_add (de_var 2) de_int)) (de_var 5)) (da_cons (de_at (de_at (de_var 0) (de_var 2)) (de_var 5)) da_nil)))))
      (ds_one (ds_if (dt_ne hr (de_callD G_law_times (hr.mono (by decide)) (by rfl) (da_cons (de_at (de_var 3) de_int) (da_cons (de_at (de_var 4) de_int) da_nil))) (de_callD G_law_times (hr.mono (by decide)) (by rfl) (da_cons (de_at (de_var 4) de_int) (da_cons (de_at (de_var 3) de_int) da_nil)))) (ds_one (ds_expr (de_append (de_var 1) (da_cons (de_at (de_var 0) (de_var 2)) da_nil)))) ds_nil)))))
      (ds_one (ds_ret (de_new (dn_catEN (de_var 1) (dn_lst (da_cons (de_at (de_var 0) (de_neg de_int)) da_nil))))))))

abbrev s_law_draw : Stmt := topS 34
theorem sc_law_draw : FnScope ["seed", "most", "found", "number"] ["seed", "most"] (defScope s_law_draw) := ⟨rfl, rfl, rfl, by decide +kernel, rfl, by decide +kernel, by decide +kernel⟩
theorem ok_law_draw (T : Top K mg) : Def P w K mg base "_law_draw" 1 ["seed", "most"] sp_law_draw := by
  refine def_mk (t := t_law_draw) T.a_law_draw sc_law_draw (fun _ _ _ _ _ _ us hl => match us, hl with | [_, _], _ => rfl) len_law_draw (fun f cdv A outer s H E hr => ?_) rd_law_draw
  exact (ds_cons (ds_asg (de_add (de_at (de_var 0) de_int) de_int) (dg_sub (de_var 0) de_int))
      (ds_cons (ds_if (DW.t (dw_and (dt_eq hr (de_at (de_var 0) de_int) de_int) (dw_and1 (dt_gt (de_at (de_var 0) de_int) de_int)))) (ds_cons (ds_set (i := 2) sc_law_draw.nd rfl (by first | exact Or.inl rfl | exact Or.inr rfl) (de_mod (de_at (de_var 0) de_int) (de_var 1)))
      (ds_cons (ds_asg (de_div (de_at (de_var 0) de_int) (de_var 1)) (dg_sub (de_var 0) de_int))
      (ds_one (ds_ret (de_var 2))))) ds_nil)
      (ds_cons (ds_set (i := 3) sc_law_draw.nd rfl (by first | exact Or.inl rfl | exact Or.inr rfl) (de_mod (de_mul (de_add (de_add (de_at (de_var 0) de_int) (de_mul de_int (de_at (de_var 0) de_int))) de_int) de_int) de_int))
      (ds_cons (ds_set (i := 3) sc_law_draw.nd rfl (by first | exact Or.inl rfl | exact Or.inr rfl) (de_mod (de_mul (de_mod (de_mul (de_var 3) (de_var 3)) de_int) de_int) de_int))
      (ds_one (ds_ret (de_mod (de_div (de_var 3) de_int) (de_var 1))))))))

abbrev s_law_over : Stmt := topS 39
theorem sc_law_over : FnScope ["one", "other", "sign"] ["one", "other"] (defScope s_law_over) := ⟨rfl, rfl, rfl, by decide +kernel, rfl, by decide +kernel, by decide +kernel⟩
theorem ok_law_over (T : Top K mg) (G_law_fraction : Def P w K mg base "_law_fraction" 1 ["upper", "below"] sp_law_fraction) : Def P w K mg base "_law_over" 2 ["one", "other"] sp_law_over := by
  refine def_mk (t := t_law_over) T.a_law_over sc_law_over (fun _ _ _ _ _ _ us hl => match us, hl with | [_, _], _ => rfl) len_law_over (fun f cdv A outer s H E hr => ?_) rd_law_over
  exact (ds_cons (ds_set (i := 2) sc_law_over.nd rfl (by first | exact Or.inl rfl | exact Or.inr rfl) (de_atN (dn_lst (da_cons de_int (da_cons (de_neg de_int) da_nil))) (de_intOf (by rfl) T.b_int (da_cons (de_lt (de_at (de_var 1) de_int) de_int) da_nil))))
      (ds_one (ds_ret (de_callD G_law_fraction (hr.mono (by decide)) (by rfl) (da_cons (de_mul (de_mul (de_at (de_var 0) de_int) (de_at (de_var 1) de_int)) (de_var 2)) (da_cons (de_mul (de_mul (de_at (de_var 0) de_int) (de_at (de_var 1) de_int)) (de_var 2)) da_nil))))))

abbrev s_law_filled : Stmt := topS 44
theorem sc_law_filled : FnScope ["seed", "knots", "turn", "k", "at", "to"] ["seed", "knots"] (defScope s_law_filled) := ⟨rfl, rfl, rfl, by decide +kernel, rfl, by decide +kernel, by decide +kernel⟩
theorem ok_law_filled (T : Top K mg) (G_law_draw : Def P w K mg base "_law_draw" 1 ["seed", "most"] sp_law_draw) (G_law_over : Def P w K mg base "_law_over" 2 ["one", "other"] sp_law_over) (G_law_plus : Def P w K mg base "_law_plus" 2 ["one", "other"] sp_law_plus) : Def P w K mg base "_law_filled" 3 ["seed", "knots"] sp_law_filled := by
  refine def_mk (t := t_law_filled) T.a_law_filled sc_law_filled (fun _ _ _ _ _ _ us hl => match us, hl with | [_, _], _ => rfl) len_law_filled (fun f cdv A outer s H E hr => ?_) rd_law_filled
  exact (ds_cons (ds_for PassesOwn.never (by rfl) (di_range1 (by rfl) T.b_range (de_callD G_law_draw (hr.mono (by decide)) (by rfl) (da_cons (de_var 0) (da_cons de_int da_nil)))) (dg_name (i := 2) sc_law_filled.nd rfl (by first | exact Or.inl rfl | exact Or.inr rfl)) (ds_cons (ds_set (i := 3) sc_law_filled.nd rfl (by first | exact Or.inl rfl | exact Or.inr rfl) (de_callD G_law_draw (hr.mono (by decide)) (by rfl) (da_cons (de_var 0) (da_cons (de_sub (de_len (by rfl) T.b_len (da_cons (de_var 1) da_nil)) de_int) da_nil))))
      (ds_cons (ds_set (i := 4) sc_law_filled.nd rfl (by first | exact Or.inl rfl | exact Or.inr rfl) (de_callD G_law_over (hr.mono (by decide)) (by rfl) (da_cons (de_callD G_law_plus (hr.mono (by decide)) (by rfl) (da_cons (de_at (de_at (de_var 1) (de_var 3)) de_int) (da_cons (de_at (de_at (de_var 1) (de_add (de_var 3) de_int)) de_int) da_nil))) (da_cons (de_tup (da_cons de_int (da_cons de_int da_nil))) da_nil))))
      (ds_cons (ds_set (i := 5) sc_law_filled.nd rfl (by first | exact Or.inl rfl | exact Or.inr rfl) (de_callD G_law_over (hr.mono (by decide)) (by rfl) (da_cons (de_callD G_law_plus (hr.mono (by decide)) (by rfl) (da_cons (de_at (de_at (de_var 1) (de_var 3)) de_int) (da_cons (de_at (de_at (de_var 1) (de_add (de_var 3) de_int)) de_int) da_nil))) (da_cons (de_tup (da_cons de_int (da_cons de_int da_nil))) da_nil))))
      (ds_one (ds_if (DW.t (dw_and (dt_lt (de_len (by rfl) T.b_len (da_cons (de_var 1) da_nil)) de_int) (dw_and1 (dt_lt (de_max4 (by rfl) (by rfl) T.b_max (da_cons (de_abs (by rfl) T.b_abs (da_cons (de_at (de_var 4) de_int) da_nil)) (da_cons (de_at (de_var 4) de_int) (da_cons (de_abs (by rfl) T.b_abs (da_cons (de_at (de_var 5) de_int) da_nil)) (da_cons (de_at (de_var 5) de_int) da_nil))))) (de_pow de_int de_int))))) (ds_one (ds_set (i := 1) sc_law_filled.nd rfl (by first | exact Or.inl rfl | exact Or.inr rfl) (de_add (de_add (de_cut (de_var 1) do_none (do_some (de_add (de_var 3) de_int))) (de_tup (da_cons (de_tup (da_cons (de_var 4) (da_cons (de_var 5) da_nil))) da_nil))) (de_cut (de_var 1) (do_some (de_add (de_var 3) de_int)) do_none)))) ds_nil))))))
      (ds_one (ds_ret (de_var 1))))

abbrev s_law_folded : Stmt := topS 32
theorem sc_law_folded : FnScope ["script", "found", "cell"] ["script"] (defScope s_law_folded) := ⟨rfl, rfl, rfl, by decide +kernel, rfl, by decide +kernel, by decide +kernel⟩
theorem ok_law_folded (T : Top K mg) : Def P w K mg base "_law_folded" 1 ["script"] sp_law_folded := by
  refine def_mk (t := t_law_folded) T.a_law_folded sc_law_folded (fun _ _ _ _ _ _ us hl => match us, hl with | [_], _ => rfl) len_law_folded (fun f cdv A outer s H E hr => ?_) rd_law_folded
  exact (ds_cons (ds_set (i := 1) sc_law_folded.nd rfl (by first | exact Or.inl rfl | exact Or.inr rfl) (de_len (by rfl) T.b_len (da_cons (de_var 0) da_nil)))
      (ds_cons (ds_for PassesOwn.never (by rfl) (di_row (de_var 0)) (dg_name (i := 2) sc_law_folded.nd rfl (by first | exact Or.inl rfl | exact Or.inr rfl)) (ds_one (ds_set (i := 1) sc_law_folded.nd rfl (by first | exact Or.inl rfl | exact Or.inr rfl) (de_mod (de_add (de_mul (de_var 1) de_int) (de_mod (de_var 2) de_int)) de_int))))
      (ds_one (ds_ret (de_var 1)))))

abbrev s_frac : Stmt := topS 1
theorem sc_frac : FnScope ["above", "below", "one", "other"] ["above", "below"] (defScope s_frac) := ⟨rfl, rfl, rfl, by decide +kernel, rfl, by decide +kernel, by decide +kernel⟩
theorem ok_frac (T : Top K mg) : Def P w K mg base "frac" 1 ["above", "below"] sp_frac := by
  refine def_mk (t := t_frac) T.a_frac sc_frac (fun _ _ _ _ _ _ us hl => match us, hl with | [_, _], _ => rfl) len_frac (fun f cdv A outer s H E hr => ?_) rd_frac
  exact (ds_cons (ds_if (dt_lt (de_var 1) de_int) (ds_one (ds_par (i := 0) (j := 1) (by rfl) sc_frac.nd rfl rfl (by decide) rfl rfl (de_neg (de_var 0)) (de_neg (de_var 1)))) ds_nil)
      (ds_cons (ds_par (i := 2) (j := 3) (by rfl) sc_frac.nd rfl rfl (by decide) rfl rfl (de_abs (by rfl) T.b_abs (da_cons (de_var 0) da_nil)) (de_var 1))
      (ds_cons (ds_while PassesOwn.never (dt_gt (de_var 3) de_int) (ds_one (ds_par (i := 2) (j := 3) (by rfl) sc_frac.nd rfl rfl (by decide) rfl rfl (de_var 3) (de_mod (de_var 2) (de_var 3)))))
      (ds_one (ds_ret (de_tup (da_cons (de_div (de_var 0) (de_var 2)) (da_cons (de_div (de_var 1) (de_var 2)) da_nil))))))))

abbrev s_frac_less : Stmt := topS 3
theorem sc_frac_less : FnScope ["one", "other"] ["one", "other"] (defScope s_frac_less) := ⟨rfl, rfl, rfl, by decide +kernel, rfl, by decide +kernel, by decide +kernel⟩
theorem ok_frac_less (T : Top K mg) (G_frac : Def P w K mg base "frac" 1 ["above", "below"] sp_frac) : Def P w K mg base "frac_less" 2 ["one", "other"] sp_frac_less := by
  refine def_mk (t := t_frac_less) T.a_frac_less sc_frac_less (fun _ _ _ _ _ _ us hl => match us, hl with | [_, _], _ => rfl) len_frac_less (fun f cdv A outer s H E hr => ?_) rd_frac_less
  exact (ds_one (ds_ret (de_callD G_frac (hr.mono (by decide)) (by rfl) (da_cons (de_sub (de_mul (de_at (de_var 0) de_int) (de_at (de_var 1) de_int)) (de_mul (de_at (de_var 1) de_int) (de_at (de_var 0) de_int))) (da_cons (de_mul (de_at (de_var 0) de_int) (de_at (de_var 1) de_int)) da_nil)))))

abbrev s_frac_side : Stmt := topS 6
theorem sc_frac_side : FnScope ["one", "other", "far"] ["one", "other"] (defScope s_frac_side) := ⟨rfl, rfl, rfl, by decide +kernel, rfl, by decide +kernel, by decide +kernel⟩
theorem ok_frac_side (T : Top K mg) : Def P w K mg base "frac_side" 1 ["one", "other"] sp_frac_side := by
  refine def_mk (t := t_frac_side) T.a_frac_side sc_frac_side (fun _ _ _ _ _ _ us hl => match us, hl with | [_, _], _ => rfl) len_frac_side (fun f cdv A outer s H E hr => ?_) rd_frac_side
  exact (ds_cons (ds_set (i := 2) sc_frac_side.nd rfl (by first | exact Or.inl rfl | exact Or.inr rfl) (de_sub (de_mul (de_at (de_var 0) de_int) (de_at (de_var 1) de_int)) (de_mul (de_at (de_var 1) de_int) (de_at (de_var 0) de_int))))
      (ds_one (ds_ret (de_sub (de_intOf (by rfl) T.b_int (da_cons (de_gt (de_var 2) de_int) da_nil)) (de_intOf (by rfl) T.b_int (da_cons (de_lt (de_var 2) de_int) da_nil))))))

abbrev s_frac_over : Stmt := topS 5
theorem sc_frac_over : FnScope ["one", "other"] ["one", "other"] (defScope s_frac_over) := ⟨rfl, rfl, rfl, by decide +kernel, rfl, by decide +kernel, by decide +kernel⟩
theorem ok_frac_over (T : Top K mg) (G_frac : Def P w K mg base "frac" 1 ["above", "below"] sp_frac) : Def P w K mg base "frac_over" 2 ["one", "other"] sp_frac_over := by
  refine def_mk (t := t_frac_over) T.a_frac_over sc_frac_over (fun _ _ _ _ _ _ us hl => match us, hl with | [_, _], _ => rfl) len_frac_over (fun f cdv A outer s H E hr => ?_) rd_frac_over
  exact (ds_one (ds_ret (de_callD G_frac (hr.mono (by decide)) (by rfl) (da_cons (de_mul (de_at (de_var 0) de_int) (de_at (de_var 1) de_int)) (da_cons (de_mul (de_at (de_var 0) de_int) (de_at (de_var 1) de_int)) da_nil)))))

abbrev s_frac_plus : Stmt := topS 2
theorem sc_frac_plus : FnScope ["one", "other"] ["one", "other"] (defScope s_frac_plus) := ⟨rfl, rfl, rfl, by decide +kernel, rfl, by decide +kernel, by decide +kernel⟩
theorem ok_frac_plus (T : Top K mg) (G_frac : Def P w K mg base "frac" 1 ["above", "below"] sp_frac) : Def P w K mg base "frac_plus" 2 ["one", "other"] sp_frac_plus := by
  refine def_mk (t := t_frac_plus) T.a_frac_plus sc_frac_plus (fun _ _ _ _ _ _ us hl => match us, hl with | [_, _], _ => rfl) len_frac_plus (fun f cdv A outer s H E hr => ?_) rd_frac_plus
  exact (ds_one (ds_ret (de_callD G_frac (hr.mono (by decide)) (by rfl) (da_cons (de_add (de_mul (de_at (de_var 0) de_int) (de_at (de_var 1) de_int)) (de_mul (de_at (de_var 1) de_int) (de_at (de_var 0) de_int))) (da_cons (de_mul (de_at (de_var 0) de_int) (de_at (de_var 1) de_int)) da_nil)))))

abbrev s_frac_times : Stmt := topS 4
theorem sc_frac_times : FnScope ["one", "other"] ["one", "other"] (defScope s_frac_times) := ⟨rfl, rfl, rfl, by decide +kernel, rfl, by decide +kernel, by decide +kernel⟩
theorem ok_frac_times (T : Top K mg) (G_frac : Def P w K mg base "frac" 1 ["above", "below"] sp_frac) : Def P w K mg base "frac_times" 2 ["one", "other"] sp_frac_times := by
  refine def_mk (t := t_frac_times) T.a_frac_times sc_frac_times (fun _ _ _ _ _ _ us hl => match us, hl with | [_, _], _ => rfl) len_frac_times (fun f cdv A outer s H E hr => ?_) rd_frac_times
  exact (ds_one (ds_ret (de_callD G_frac (hr.mono (by decide)) (by rfl) (da_cons (de_mul (de_at (de_var 0) de_int) (de_at (de_var 1) de_int)) (da_cons (de_mul (de_at (de_var 0) de_int) (de_at (de_var 1) de_int)) da_nil)))))

abbrev s_met_at : Stmt := topS 19
theorem sc_met_at : FnScope ["begin", "end", "level", "part"] ["begin", "end", "level"] (defScope s_met_at) := ⟨rfl, rfl, rfl, by decide +kernel, rfl, by decide +kernel, by decide +kernel⟩
theorem ok_met_at (T : Top K mg) (G_frac_less : Def P w K mg base "frac_less" 2 ["one", "other"] sp_frac_less) (G_frac_over : Def P w K mg base "frac_over" 2 ["one", "other"] sp_frac_over) (G_frac_plus : Def P w K mg base "frac_plus" 2 ["one", "other"] sp_frac_plus) (G_frac_times : Def P w K mg base "frac_times" 2 ["one", "other"] sp_frac_times) : Def P w K mg base "met_at" 3 ["begin", "end", "level"] sp_met_at := by
  refine def_mk (t := t_met_at) T.a_met_at sc_met_at (fun _ _ _ _ _ _ us hl => match us, hl with | [_, _, _], _ => rfl) len_met_at (fun f cdv A outer s H E hr => ?_) rd_met_at
  exact (ds_cons (ds_set (i := 3) sc_met_at.nd rfl (by first | exact Or.inl rfl | exact Or.inr rfl) (de_callD G_frac_over (hr.mono (by decide)) (by rfl) (da_cons (de_callD G_frac_less (hr.mono (by decide)) (by rfl) (da_cons (de_var 2) (da_cons (de_at (de_var 0) de_int) da_nil))) (da_cons (de_callD G_frac_less (hr.mono (by decide)) (by rfl) (da_cons (de_at (de_var 1) de_int) (da_cons (de_at (de_var 0) de_int) da_nil))) da_nil))))
      (ds_one (ds_ret (de_callD G_frac_plus (hr.mono (by decide)) (by rfl) (da_cons (de_at (de_var 0) de_int) (da_cons (de_callD G_frac_times (hr.mono (by decide)) (by rfl) (da_cons (de_var 3) (da_cons (de_callD G_frac_less (hr.mono (by decide)) (by rfl) (da_cons (de_at (de_var 1) de_int) (da_cons (de_at (de_var 0) de_int) da_nil))) da_nil))) da_nil))))))

abbrev s_neighbours : Stmt := topS 17
theorem sc_neighbours : FnScope ["knots"] ["knots"] (defScope s_neighbours) := ⟨rfl, rfl, rfl, by decide +kernel, rfl, by decide +kernel, by decide +kernel⟩
theorem ok_neighbours (T : Top K mg) : Def P w K mg base "neighbours" 1 ["knots"] sp_neighbours := by
  refine def_mk (t := t_neighbours) T.a_neighbours sc_neighbours (fun _ _ _ _ _ _ us hl => match us, hl with | [_], _ => rfl) len_neighbours (fun f cdv A outer s H E hr => ?_) rd_neighbours
  exact (ds_one (ds_ret (de_new (dn_listZip (by rfl) (by rfl) T.b_list (by rfl) T.b_zip (de_var 0) (de_cut (de_var 0) (do_some de_int) do_none)))))

abbrev s_put_to : Stmt := topS 18
theorem sc_put_to : FnScope ["pairs", "pair"] ["pairs", "pair"] (defScope s_put_to) := ⟨rfl, rfl, rfl, by decide +kernel, rfl, by decide +kernel, by decide +kernel⟩
theorem ok_put_to (T : Top K mg) (G_frac_side : Def P w K mg base "frac_side" 1 ["one", "other"] sp_frac_side) : Def P w K mg base "put_to" 2 ["pairs", "pair"] sp_put_to := by
  refine def_mk (t := t_put_to) T.a_put_to sc_put_to (fun _ _ _ _ _ _ us hl => match us, hl with | [_, _], _ => rfl) len_put_to (fun f cdv A outer s H E hr => ?_) rd_put_to
  exact (ds_one (ds_if (DW.t (dw_and (dt_neN hr (de_var 0) (dn_lst da_nil)) (dw_and1 (dt_ge (de_callD G_frac_side (hr.mono (by decide)) (by rfl) (da_cons (de_at (de_at (de_var 0) (de_neg de_int)) de_int) (da_cons (de_at (de_var 1) de_int) da_nil))) de_int)))) (ds_one (ds_asg (de_tup (da_cons (de_at (de_at (de_var 0) (de_neg de_int)) de_int) (da_cons (de_at (de_var 1) de_int) da_nil))) (dg_sub (de_var 0) (de_neg de_int)))) (ds_one (ds_expr (de_append (de_var 0) (da_cons (de_var 1) da_nil))))))

abbrev s_noughts_of : Stmt := topS 20
theorem sc_noughts_of : FnScope ["rows", "found", "begin", "end", "sides", "point"] ["rows"] (defScope s_noughts_of) := ⟨rfl, rfl, rfl, by decide +kernel, rfl, by decide +kernel, by decide +kernel⟩
theorem ok_noughts_of (T : Top K mg) (G_frac_side : Def P w K mg base "frac_side" 1 ["one", "other"] sp_frac_side) (G_met_at : Def P w K mg base "met_at" 3 ["begin", "end", "level"] sp_met_at) (G_neighbours : Def P w K mg base "neighbours" 1 ["knots"] sp_neighbours) (G_put_to : Def P w K mg base "put_to" 2 ["pairs", "pair"] sp_put_to) : Def P w K mg base "noughts_of" 4 ["rows"] sp_noughts_of := by
  refine def_mk (t := t_noughts_of) T.a_noughts_of sc_noughts_of (fun _ _ _ _ _ _ us hl => match us, hl with | [_], _ => rfl) len_noughts_of (fun f cdv A outer s H E hr => ?_) rd_noughts_of
  exact (ds_cons (ds_setN (i := 1) sc_noughts_of.nd rfl (by first | exact Or.inl rfl | exact Or.inr rfl) (dn_lst da_nil))
      (ds_cons (ds_for PassesOwn.never (by rfl) (di_row (de_callD G_neighbours (hr.mono (by decide)) (by rfl) (da_cons (de_var 0) da_nil))) (dg_tup (by rfl) (dgs_cons (dg_name (i := 2) sc_noughts_of.nd rfl (by first | exact Or.inl rfl | exact Or.inr rfl)) (dgs_cons (dg_name (i := 3) sc_noughts_of.nd rfl (by first | exact Or.inl rfl | exact Or.inr rfl)) dgs_nil))) (ds_cons (ds_set (i := 4) sc_noughts_of.nd rfl (by first | exact Or.inl rfl | exact Or.inr rfl) (de_tup (da_cons (de_callD G_frac_side (hr.mono (by decide)) (by rfl) (da_cons (de_at (de_var 2) de_int) (da_cons (de_globT T.g_NOUGHT (by rfl)) da_nil))) (da_cons (de_callD G_frac_side (hr.mono (by decide)) (by rfl) (da_cons (de_at (de_var 3) de_int) (da_cons (de_globT T.g_NOUGHT (by rfl)) da_nil))) da_nil))))
      (ds_one (ds_if (dt_eq hr (de_var 4) (de_tup (da_cons de_int (da_cons de_int da_nil)))) (ds_one (ds_expr (de_callD G_put_to (hr.mono (by decide)) (by rfl) (da_cons (de_var 1) (da_cons (de_tup (da_cons (de_at (de_var 2) de_int) (da_cons (de_at (de_var 3) de_int) da_nil))) da_nil))))) (ds_one (ds_if (dt_leA hr (de_mul (de_at (de_var 4) de_int) (de_at (de_var 4) de_int)) de_int) (ds_cons (ds_set (i := 5) sc_noughts_of.nd rfl (by first | exact Or.inl rfl | exact Or.inr rfl) (de_callD G_met_at (hr.mono (by decide)) (by rfl) (da_cons (de_var 2) (da_cons (de_var 3) (da_cons (de_globT T.g_NOUGHT (by rfl)) da_nil)))))
      (ds_one (ds_expr (de_callD G_put_to (hr.mono (by decide)) (by rfl) (da_cons (de_var 1) (da_cons (de_tup (da_cons (de_var 5) (da_cons (de_var 5) da_nil))) da_nil)))))) ds_nil))))))
      (ds_one (ds_ret (de_tupleOf (by rfl) T.b_tuple (da_cons (de_var 1) da_nil))))))

abbrev s_stays_of : Stmt := topS 21
theorem sc_stays_of : FnScope ["knots", "at", "to"] ["knots"] (defScope s_stays_of) := ⟨rfl, rfl, rfl, by decide +kernel, rfl, by decide +kernel, by decide +kernel⟩
theorem ok_stays_of (T : Top K mg) (G_frac_less : Def P w K mg base "frac_less" 2 ["one", "other"] sp_frac_less) (G_noughts_of : Def P w K mg base "noughts_of" 4 ["rows"] sp_noughts_of) : Def P w K mg base "stays_of" 5 ["knots"] sp_stays_of := by
  refine def_mk (t := t_stays_of) T.a_stays_of sc_stays_of (fun _ _ _ _ _ _ us hl => match us, hl with | [_], _ => rfl) len_stays_of (fun f cdv A outer s H E hr => ?_) rd_stays_of
  exact (ds_one (ds_ret (de_callD G_noughts_of (hr.mono (by decide)) (by rfl) (da_cons (de_new (dn_lc (own := [("at", 1), ("to", 2)]) (by rfl) sc_stays_of.nd (di_row (de_var 0)) (blkOk_by (show blkC ["knots", "at", "to"] (defScope s_stays_of) _ _ = true by decide +kernel)) (fun _ _ _ _ _ => (dgw_tup (by rfl) (dgws_cons (dgw_name (i := 1) sc_stays_of.nd rfl (by first | exact Or.inl rfl | exact Or.inr rfl)) (dgws_cons (dgw_name (i := 2) sc_stays_of.nd rfl (by first | exact Or.inl rfl | exact Or.inr rfl)) dgws_nil)))) (fun _ _ _ _ _ => dts_nil) (fun _ _ _ _ _ => (de_tup (da_cons (de_var 1) (da_cons (de_callD G_frac_less (hr.mono (by decide)) (by rfl) (da_cons (de_var 2) (da_cons (de_var 1) da_nil))) da_nil)))))) da_nil))))

abbrev s_is_amid : Stmt := topS 23
theorem sc_is_amid : FnScope ["point", "one", "other"] ["point", "one", "other"] (defScope s_is_amid) := ⟨rfl, rfl, rfl, by decide +kernel, rfl, by decide +kernel, by decide +kernel⟩
theorem ok_is_amid (T : Top K mg) (G_frac_side : Def P w K mg base "frac_side" 1 ["one", "other"] sp_frac_side) : Def P w K mg base "is_amid" 2 ["point", "one", "other"] sp_is_amid := by
  refine def_mk (t := t_is_amid) T.a_is_amid sc_is_amid (fun _ _ _ _ _ _ us hl => match us, hl with | [_, _, _], _ => rfl) len_is_amid (fun f cdv A outer s H E hr => ?_) rd_is_amid
  exact (ds_one (ds_ret (de_eq hr (de_mul (de_callD G_frac_side (hr.mono (by decide)) (by rfl) (da_cons (de_var 1) (da_cons (de_var 0) da_nil))) (de_callD G_frac_side (hr.mono (by decide)) (by rfl) (da_cons (de_var 0) (da_cons (de_var 2) da_nil)))) de_int)))

abbrev s_slope_between : Stmt := topS 12
theorem sc_slope_between : FnScope ["one", "other"] ["one", "other"] (defScope s_slope_between) := ⟨rfl, rfl, rfl, by decide +kernel, rfl, by decide +kernel, by decide +kernel⟩
theorem ok_slope_between (T : Top K mg) (G_frac_less : Def P w K mg base "frac_less" 2 ["one", "other"] sp_frac_less) (G_frac_over : Def P w K mg base "frac_over" 2 ["one", "other"] sp_frac_over) : Def P w K mg base "slope_between" 3 ["one", "other"] sp_slope_between := by
  refine def_mk (t := t_slope_between) T.a_slope_between sc_slope_between (fun _ _ _ _ _ _ us hl => match us, hl with | [_, _], _ => rfl) len_slope_between (fun f cdv A outer s H E hr => ?_) rd_slope_between
  exact (ds_one (ds_ret (de_callD G_frac_over (hr.mono (by decide)) (by rfl) (da_cons (de_callD G_frac_less (hr.mono (by decide)) (by rfl) (da_cons (de_at (de_var 1) de_int) (da_cons (de_at (de_var 0) de_int) da_nil))) (da_cons (de_callD G_frac_less (hr.mono (by decide)) (by rfl) (da_cons (de_at (de_var 1) de_int) (da_cons (de_at (de_var 0) de_int) da_nil))) da_nil)))))

abbrev s_knots_amid : Stmt := topS 24
theorem sc_knots_amid : FnScope ["ahead", "behind", "other", "found", "at", "to", "far"] ["ahead", "behind", "other"] (defScope s_knots_amid) := ⟨rfl, rfl, rfl, by decide +kernel, rfl, by decide +kernel, by decide +kernel⟩
theorem ok_knots_amid (T : Top K mg) (G_frac_less : Def P w K mg base "frac_less" 2 ["one", "other"] sp_frac_less) (G_frac_over : Def P w K mg base "frac_over" 2 ["one", "other"] sp_frac_over) (G_frac_plus : Def P w K mg base "frac_plus" 2 ["one", "other"] sp_frac_plus) (G_frac_side : Def P w K mg base "frac_side" 1 ["one", "other"] sp_frac_side) (G_is_amid : Def P w K mg base "is_amid" 2 ["point", "one", "other"] sp_is_amid) (G_slope_between : Def P w K mg base "slope_between" 3 ["one", "other"] sp_slope_between) : Def P w K mg base "knots_amid" 4 ["ahead", "behind", "other"] sp_knots_amid := by
  refine def_mk (t := t_knots_amid) T.a_knots_amid sc_knots_amid (fun _ _ _ _ _ _ us hl => match us, hl with | [_, _, _], _ => rfl) len_knots_amid (fun f cdv A outer s H E hr => ?_) rd_knots_amid
  exact (ds_cons (ds_setN (i := 3) sc_knots_amid.nd rfl (by first | exact Or.inl rfl | exact Or.inr rfl) (dn_lst da_nil))
      (ds_cons (ds_for PassesOwn.never (by rfl) (di_row (de_var 2)) (dg_tup (by rfl) (dgs_cons (dg_name (i := 4) sc_knots_amid.nd rfl (by first | exact Or.inl rfl | exact Or.inr rfl)) (dgs_cons (dg_name (i := 5) sc_knots_amid.nd rfl (by first | exact Or.inl rfl | exact Or.inr rfl)) dgs_nil))) (ds_one (ds_if (dt_val (de_callD G_is_amid (hr.mono (by decide)) (by rfl) (da_cons (de_var 4) (da_cons (de_at (de_var 0) de_int) (da_cons (de_at (de_var 1) de_int) da_nil))))) (ds_cons (ds_set (i := 6) sc_knots_amid.nd rfl (by first | exact Or.inl rfl | exact Or.inr rfl) (de_callD G_frac_over (hr.mono (by decide)) (by rfl) (da_cons (de_callD G_frac_less (hr.mono (by decide)) (by rfl) (da_cons (de_var 4) (da_cons (de_at (de_var 0) de_int) da_nil))) (da_cons (de_callD G_slope_between (hr.mono (by decide)) (by rfl) (da_cons (de_var 0) (da_cons (de_var 1) da_nil))) da_nil))))
      (ds_one (ds_expr (de_append (de_var 3) (da_cons (de_tup (da_cons (de_callD G_frac_plus (hr.mono (by decide)) (by rfl) (da_cons (de_at (de_var 0) de_int) (da_cons (de_var 6) da_nil))) (da_cons (de_var 5) da_nil))) da_nil))))) ds_nil)))
      (ds_cons (ds_if (dt_gt (de_callD G_frac_side (hr.mono (by decide)) (by rfl) (da_cons (de_at (de_var 0) de_int) (da_cons (de_at (de_var 1) de_int) da_nil))) de_int) (ds_one (ds_ret (de_new (dn_rev (de_var 3))))) ds_nil)
      (ds_one (ds_ret (de_var 3))))))

abbrev s_least_knots : Stmt := topS 14
theorem sc_least_knots : FnScope ["knots", "found", "place"] ["knots"] (defScope s_least_knots) := ⟨rfl, rfl, rfl, by decide +kernel, rfl, by decide +kernel, by decide +kernel⟩
theorem ok_least_knots (T : Top K mg) (G_slope_between : Def P w K mg base "slope_between" 3 ["one", "other"] sp_slope_between) : Def P w K mg base "least_knots" 4 ["knots"] sp_least_knots := by
  refine def_mk (t := t_least_knots) T.a_least_knots sc_least_knots (fun _ _ _ _ _ _ us hl => match us, hl with | [_], _ => rfl) len_least_knots (fun f cdv A outer s H E hr => ?_) rd_least_knots
  exact (ds_cons (ds_setN (i := 1) sc_least_knots.nd rfl (by first | exact Or.inl rfl | exact Or.inr rfl) (dn_lst (da_cons (de_at (de_var 0) de_int) da_nil)))
      (ds_cons (ds_for PassesOwn.never (by rfl) (di_range2 (by rfl) T.b_range de_int (de_sub (de_len (by rfl) T.b_len (da_cons (de_var 0) da_nil)) de_int)) (dg_name (i := 2) sc_least_knots.nd rfl (by first | exact Or.inl rfl | exact Or.inr rfl)) (ds_one (ds_if (dt_ne hr (de_callD G_slope_between (hr.mono (by decide)) (by rfl) (da_cons (de_at (de_var 1) (de_neg de_int)) (da_cons (de_at (de_var 0) (de_var 2)) da_nil))) (de_callD G_slope_between (hr.mono (by decide)) (by rfl) (da_cons (de_at (de_var 0) (de_var 2)) (da_cons (de_at (de_var 0) (de_add (de_var 2) de_int)) da_nil)))) (ds_one (ds_expr (de_append (de_var 1) (da_cons (de_at (de_var 0) (de_var 2)) da_nil)))) ds_nil)))
      (ds_one (ds_ret (de_tupN (by rfl) T.b_tuple (dn_catEN (de_var 1) (dn_lst (da_cons (de_at (de_var 0) (de_neg de_int)) da_nil))))))))

abbrev s_value_of : Stmt := topS 13
theorem sc_value_of : FnScope ["knots", "point", "place", "ahead", "rise"] ["knots", "point"] (defScope s_value_of) := ⟨rfl, rfl, rfl, by decide +kernel, rfl, by decide +kernel, by decide +kernel⟩
theorem ok_value_of (T : Top K mg) (G_frac_less : Def P w K mg base "frac_less" 2 ["one", "other"] sp_frac_less) (G_frac_plus : Def P w K mg base "frac_plus" 2 ["one", "other"] sp_frac_plus) (G_frac_side : Def P w K mg base "frac_side" 1 ["one", "other"] sp_frac_side) (G_frac_times : Def P w K mg base "frac_times" 2 ["one", "other"] sp_frac_times) (G_slope_between : Def P w K mg base "slope_between" 3 ["one", "other"] sp_slope_between) : Def P w K mg base "value_of" 4 ["knots", "point"] sp_value_of := by
  refine def_mk (t := t_value_of) T.a_value_of sc_value_of (fun _ _ _ _ _ _ us hl => match us, hl with | [_, _], _ => rfl) len_value_of (fun f cdv A outer s H E hr => ?_) rd_value_of
  exact (ds_cons (ds_if (DW.t (dw_or (dt_lt (de_callD G_frac_side (hr.mono (by decide)) (by rfl) (da_cons (de_var 1) (da_cons (de_at (de_at (de_var 0) de_int) de_int) da_nil))) de_int) (dw_or1 (dt_gt (de_callD G_frac_side (hr.mono (by decide)) (by rfl) (da_cons (de_var 1) (da_cons (de_at (de_at (de_var 0) (de_neg de_int)) de_int) da_nil))) de_int)))) (ds_one ds_never) ds_nil)
      (ds_cons (ds_set (i := 2) sc_value_of.nd rfl (by first | exact Or.inl rfl | exact Or.inr rfl) de_int)
      (ds_cons (ds_while PassesOwn.never (dt_lt (de_callD G_frac_side (hr.mono (by decide)) (by rfl) (da_cons (de_at (de_at (de_var 0) (de_var 2)) de_int) (da_cons (de_var 1) da_nil))) de_int) (ds_one (ds_augAdd (i := 2) sc_value_of.nd rfl (by first | exact Or.inl rfl | exact Or.inr rfl) de_int)))
      (ds_cons (ds_set (i := 3) sc_value_of.nd rfl (by first | exact Or.inl rfl | exact Or.inr rfl) (de_at (de_var 0) (de_sub (de_var 2) de_int)))
      (ds_cons (ds_set (i := 4) sc_value_of.nd rfl (by first | exact Or.inl rfl | exact Or.inr rfl) (de_callD G_frac_times (hr.mono (by decide)) (by rfl) (da_cons (de_callD G_slope_between (hr.mono (by decide)) (by rfl) (da_cons (de_var 3) (da_cons (de_at (de_var 0) (de_var 2)) da_nil))) (da_cons (de_callD G_frac_less (hr.mono (by decide)) (by rfl) (da_cons (de_var 1) (da_cons (de_at (de_var 3) de_int) da_nil))) da_nil))))
      (ds_one (ds_ret (de_callD G_frac_plus (hr.mono (by decide)) (by rfl) (da_cons (de_at (de_var 3) de_int) (da_cons (de_var 4) da_nil))))))))))

abbrev s_put_behind : Stmt := topS 25
theorem sc_put_behind : FnScope ["one", "other", "found", "ahead", "behind"] ["one", "other"] (defScope s_put_behind) := ⟨rfl, rfl, rfl, by decide +kernel, rfl, by decide +kernel, by decide +kernel⟩
theorem ok_put_behind (T : Top K mg) (G_knots_amid : Def P w K mg base "knots_amid" 4 ["ahead", "behind", "other"] sp_knots_amid) (G_least_knots : Def P w K mg base "least_knots" 4 ["knots"] sp_least_knots) (G_value_of : Def P w K mg base "value_of" 4 ["knots", "point"] sp_value_of) : Def P w K mg base "put_behind" 5 ["one", "other"] sp_put_behind := by
  refine def_mk (t := t_put_behind) T.a_put_behind sc_put_behind (fun _ _ _ _ _ _ us hl => match us, hl with | [_, _], _ => rfl) len_put_behind (fun f cdv A outer s H E hr => ?_) rd_put_behind
  exact (ds_cons (ds_if (DW.t (dw_or (dt_ne hr (de_at (de_at (de_var 0) de_int) de_int) (de_at (de_at (de_var 1) de_int) de_int)) (dw_or1 (dt_ne hr (de_at (de_at (de_var 0) (de_neg de_int)) de_int) (de_at (de_at (de_var 1) (de_neg de_int)) de_int))))) (ds_one ds_never) ds_nil)
      (ds_cons (ds_setN (i := 2) sc_put_behind.nd rfl (by first | exact Or.inl rfl | exact Or.inr rfl) (dn_lst (da_cons (de_tup (da_cons (de_at (de_at (de_var 0) de_int) de_int) (da_cons (de_callD G_value_of (hr.mono (by decide)) (by rfl) (da_cons (de_var 1) (da_cons (de_at (de_at (de_var 0) de_int) de_int) da_nil))) da_nil))) da_nil)))
      (ds_cons (ds_for PassesOwn.never (by rfl) (di_zip (by rfl) T.b_zip (de_var 0) (de_cut (de_var 0) (do_some de_int) do_none)) (dg_tup (by rfl) (dgs_cons (dg_name (i := 3) sc_put_behind.nd rfl (by first | exact Or.inl rfl | exact Or.inr rfl)) (dgs_cons (dg_name (i := 4) sc_put_behind.nd rfl (by first | exact Or.inl rfl | exact Or.inr rfl)) dgs_nil))) (ds_cons (ds_expr (de_ext (de_var 2) (da_cons (de_callD G_knots_amid (hr.mono (by decide)) (by rfl) (da_cons (de_var 3) (da_cons (de_var 4) (da_cons (de_var 1) da_nil)))) da_nil)))
      (ds_one (ds_expr (de_append (de_var 2) (da_cons (de_tup (da_cons (de_at (de_var 4) de_int) (da_cons (de_callD G_value_of (hr.mono (by decide)) (by rfl) (da_cons (de_var 1) (da_cons (de_at (de_var 4) de_int) da_nil))) da_nil))) da_nil))))))
      (ds_one (ds_ret (de_callD G_least_knots (hr.mono (by decide)) (by rfl) (da_cons (de_var 2) da_nil)))))))

abbrev s_turned : Stmt := topS 26
theorem sc_turned : FnScope ["knots", "many", "first", "last", "found", "turn"] ["knots", "many"] (defScope s_turned) := ⟨rfl, rfl, rfl, by decide +kernel, rfl, by decide +kernel, by decide +kernel⟩
theorem ok_turned (T : Top K mg) (G_put_behind : Def P w K mg base "put_behind" 5 ["one", "other"] sp_put_behind) : Def P w K mg base "turned" 6 ["knots", "many"] sp_turned := by
  refine def_mk (t := t_turned) T.a_turned sc_turned (fun _ _ _ _ _ _ us hl => match us, hl with | [_, _], _ => rfl) len_turned (fun f cdv A outer s H E hr => ?_) rd_turned
  exact (ds_cons (ds_set (i := 2) sc_turned.nd rfl (by first | exact Or.inl rfl | exact Or.inr rfl) (de_at (de_at (de_var 0) de_int) de_int))
      (ds_cons (ds_set (i := 3) sc_turned.nd rfl (by first | exact Or.inl rfl | exact Or.inr rfl) (de_at (de_at (de_var 0) (de_neg de_int)) de_int))
      (ds_cons (ds_set (i := 4) sc_turned.nd rfl (by first | exact Or.inl rfl | exact Or.inr rfl) (de_tup (da_cons (de_tup (da_cons (de_var 2) (da_cons (de_var 2) da_nil))) (da_cons (de_tup (da_cons (de_var 3) (da_cons (de_var 3) da_nil))) da_nil))))
      (ds_cons (ds_for PassesOwn.never (by rfl) (di_range1 (by rfl) T.b_range (de_var 1)) (dg_name (i := 5) sc_turned.nd rfl (by first | exact Or.inl rfl | exact Or.inr rfl)) (ds_one (ds_set (i := 4) sc_turned.nd rfl (by first | exact Or.inl rfl | exact Or.inr rfl) (de_callD G_put_behind (hr.mono (by decide)) (by rfl) (da_cons (de_var 4) (da_cons (de_var 0) da_nil))))))
      (ds_one (ds_ret (de_var 4)))))))

abbrev s_come_round : Stmt := topS 28
theorem sc_come_round : FnScope ["knots", "many"] ["knots", "many"] (defScope s_come_round) := ⟨rfl, rfl, rfl, by decide +kernel, rfl, by decide +kernel, by decide +kernel⟩
theorem ok_come_round (T : Top K mg) (G_stays_of : Def P w K mg base "stays_of" 5 ["knots"] sp_stays_of) (G_turned : Def P w K mg base "turned" 6 ["knots", "many"] sp_turned) : Def P w K mg base "come_round" 7 ["knots", "many"] sp_come_round := by
  refine def_mk (t := t_come_round) T.a_come_round sc_come_round (fun _ _ _ _ _ _ us hl => match us, hl with | [_, _], _ => rfl) len_come_round (fun f cdv A outer s H E hr => ?_) rd_come_round
  exact (ds_one (ds_ret (de_callD G_stays_of (hr.mono (by decide)) (by rfl) (da_cons (de_callD G_turned (hr.mono (by decide)) (by rfl) (da_cons (de_var 0) (da_cons (de_var 1) da_nil))) da_nil))))

abbrev s_round_from : Stmt := topS 29
theorem sc_round_from : FnScope ["knots", "point", "many", "found"] ["knots", "point", "many"] (defScope s_round_from) := ⟨rfl, rfl, rfl, by decide +kernel, rfl, by decide +kernel, by decide +kernel⟩
theorem ok_round_from (T : Top K mg) (G_value_of : Def P w K mg base "value_of" 4 ["knots", "point"] sp_value_of) : Def P w K mg base "round_from" 5 ["knots", "point", "many"] sp_round_from := by
  refine def_mk (t := t_round_from) T.a_round_from sc_round_from (fun _ _ _ _ _ _ us hl => match us, hl with | [_, _, _], _ => rfl) len_round_from (fun f cdv A outer s H E hr => ?_) rd_round_from
  exact (ds_cons (ds_setN (i := 3) sc_round_from.nd rfl (by first | exact Or.inl rfl | exact Or.inr rfl) (dn_lst (da_cons (de_var 1) da_nil)))
      (ds_cons (ds_while PassesOwn.never (dt_lt (de_len (by rfl) T.b_len (da_cons (de_var 3) da_nil)) (de_var 2)) (ds_one (ds_expr (de_append (de_var 3) (da_cons (de_callD G_value_of (hr.mono (by decide)) (by rfl) (da_cons (de_var 0) (da_cons (de_at (de_var 3) (de_neg de_int)) da_nil))) da_nil)))))
      (ds_one (ds_ret (de_tupleOf (by rfl) T.b_tuple (da_cons (de_var 3) da_nil))))))

abbrev s_rounds_of : Stmt := topS 30
theorem sc_rounds_of : FnScope ["knots", "many", "found", "low", "high", "points", "other"] ["knots", "many"] (defScope s_rounds_of) := ⟨rfl, rfl, rfl, by decide +kernel, rfl, by decide +kernel, by decide +kernel⟩
theorem ok_rounds_of (T : Top K mg) (G_come_round : Def P w K mg base "come_round" 7 ["knots", "many"] sp_come_round) (G_frac_side : Def P w K mg base "frac_side" 1 ["one", "other"] sp_frac_side) (G_round_from : Def P w K mg base "round_from" 5 ["knots", "point", "many"] sp_round_from) : Def P w K mg base "rounds_of" 8 ["knots", "many"] sp_rounds_of := by
  refine def_mk (t := t_rounds_of) T.a_rounds_of sc_rounds_of (fun _ _ _ _ _ _ us hl => match us, hl with | [_, _], _ => rfl) len_rounds_of (fun f cdv A outer s H E hr => ?_) rd_rounds_of
  exact (ds_cons (ds_setN (i := 2) sc_rounds_of.nd rfl (by first | exact Or.inl rfl | exact Or.inr rfl) (dn_lst da_nil))
      (ds_cons (ds_for PassesOwn.never (by rfl) (di_row (de_callD G_come_round (hr.mono (by decide)) (by rfl) (da_cons (de_var 0) (da_cons (de_var 1) da_nil)))) (dg_tup (by rfl) (dgs_cons (dg_name (i := 3) sc_rounds_of.nd rfl (by first | exact Or.inl rfl | exact Or.inr rfl)) (dgs_cons (dg_name (i := 4) sc_rounds_of.nd rfl (by first | exact Or.inl rfl | exact Or.inr rfl)) dgs_nil))) (ds_cons (ds_set (i := 5) sc_rounds_of.nd rfl (by first | exact Or.inl rfl | exact Or.inr rfl) (de_callD G_round_from (hr.mono (by decide)) (by rfl) (da_cons (de_var 0) (da_cons (de_var 3) (da_cons (de_var 1) da_nil)))))
      (ds_one (ds_if (DW.t (dw_and (dt_eq hr (de_var 3) (de_var 4)) (dw_and1 (dt_eqNN hr (dn_lc (own := [("other", 6)]) (by rfl) sc_rounds_of.nd (di_row (de_cut (de_var 5) (do_some de_int) do_none)) (blkOk_by (show blkC ["knots", "many", "found", "low", "high", "points", "other"] (defScope s_rounds_of) _ _ = true by decide +kernel)) (fun _ _ _ _ _ => (dgw_name (i := 6) sc_rounds_of.nd rfl (by first | exact Or.inl rfl | exact Or.inr rfl))) (fun _ _ _ _ _ => (dts_one (dt_leA hr (de_callD G_frac_side (hr.mono (by decide)) (by rfl) (da_cons (de_var 6) (da_cons (de_var 3) da_nil))) de_int))) (fun _ _ _ _ _ => de_int)) (dn_lst da_nil))))) (ds_one (ds_expr (de_append (de_var 2) (da_cons (de_var 5) da_nil)))) ds_nil))))
      (ds_one (ds_ret (de_tupleOf (by rfl) T.b_tuple (da_cons (de_var 2) da_nil))))))

abbrev s_law_longer_right : Stmt := topS 53
theorem sc_law_longer_right : FnScope ["longer", "told", "low", "high"] ["longer", "told"] (defScope s_law_longer_right) := ⟨rfl, rfl, rfl, by decide +kernel, rfl, by decide +kernel, by decide +kernel⟩
theorem ok_law_longer_right (T : Top K mg) (G_come_round : Def P w K mg base "come_round" 7 ["knots", "many"] sp_come_round) (G_least_knots : Def P w K mg base "least_knots" 4 ["knots"] sp_least_knots) (G_rounds_of : Def P w K mg base "rounds_of" 8 ["knots", "many"] sp_rounds_of) (G_stays_of : Def P w K mg base "stays_of" 5 ["knots"] sp_stays_of) (G_turned : Def P w K mg base "turned" 6 ["knots", "many"] sp_turned) : Def P w K mg base "_law_longer_right" 9 ["longer", "told"] sp_law_longer_right := by
  refine def_mk (t := t_law_longer_right) T.a_law_longer_right sc_law_longer_right (fun _ _ _ _ _ _ us hl => match us, hl with | [_, _], _ => rfl) len_law_longer_right (fun f cdv A outer s H E hr => ?_) rd_law_longer_right
  exact (ds_cons (ds_if (DW.t (dw_or (dt_ne hr (de_callD G_come_round (hr.mono (by decide)) (by rfl) (da_cons (de_var 0) (da_cons de_int da_nil))) (de_var 1)) (dw_or1 (dt_ne hr (de_callD G_stays_of (hr.mono (by decide)) (by rfl) (da_cons (de_var 0) da_nil)) (de_var 1))))) (ds_one (ds_ret de_bl)) ds_nil)
      (ds_cons (ds_if (dt_ne hr (de_callD G_rounds_of (hr.mono (by decide)) (by rfl) (da_cons (de_var 0) (da_cons de_int da_nil))) (de_tupN (by rfl) T.b_tuple (dn_lc (own := [("low", 2), ("high", 3)]) (by rfl) sc_law_longer_right.nd (di_row (de_var 1)) (blkOk_by (show blkC ["longer", "told", "low", "high"] (defScope s_law_longer_right) _ _ = true by decide +kernel)) (fun _ _ _ _ _ => (dgw_tup (by rfl) (dgws_cons (dgw_name (i := 2) sc_law_longer_right.nd rfl (by first | exact Or.inl rfl | exact Or.inr rfl)) (dgws_cons (dgw_name (i := 3) sc_law_longer_right.nd rfl (by first | exact Or.inl rfl | exact Or.inr rfl)) dgws_nil)))) (fun _ _ _ _ _ => (dts_one (dt_eq hr (de_var 2) (de_var 3)))) (fun _ _ _ _ _ => (de_tup (da_cons (de_var 2) da_nil)))))) (ds_one (ds_ret de_bl)) ds_nil)
      (ds_one (ds_ret (de_and (de_eq hr (de_callD G_least_knots (hr.mono (by decide)) (by rfl) (da_cons (de_var 0) da_nil)) (de_var 0)) (de_one (de_eq hr (de_callD G_turned (hr.mono (by decide)) (by rfl) (da_cons (de_var 0) (da_cons de_int da_nil))) (de_var 0))))))))

abbrev s_law_many : Stmt := topS 46
theorem sc_law_many : FnScope ["seed", "pieces", "most", "power"] ["seed", "pieces"] (defScope s_law_many) := ⟨rfl, rfl, rfl, by decide +kernel, rfl, by decide +kernel, by decide +kernel⟩
theorem ok_law_many (T : Top K mg) (G_law_draw : Def P w K mg base "_law_draw" 1 ["seed", "most"] sp_law_draw) : Def P w K mg base "_law_many" 2 ["seed", "pieces"] sp_law_many := by
  refine def_mk (t := t_law_many) T.a_law_many sc_law_many (fun _ _ _ _ _ _ us hl => match us, hl with | [_, _], _ => rfl) len_law_many (fun f cdv A outer s H E hr => ?_) rd_law_many
  exact (ds_cons (ds_set (i := 2) sc_law_many.nd rfl (by first | exact Or.inl rfl | exact Or.inr rfl) de_int)
      (ds_cons (ds_set (i := 3) sc_law_many.nd rfl (by first | exact Or.inl rfl | exact Or.inr rfl) (de_var 1))
      (ds_cons (ds_while PassesOwn.never (DW.t (dw_and (dt_lt (de_var 2) de_int) (dw_and1 (dt_leA hr (de_mul (de_var 3) (de_var 1)) de_int)))) (ds_cons (ds_set (i := 3) sc_law_many.nd rfl (by first | exact Or.inl rfl | exact Or.inr rfl) (de_mul (de_var 3) (de_var 1)))
      (ds_one (ds_set (i := 2) sc_law_many.nd rfl (by first | exact Or.inl rfl | exact Or.inr rfl) (de_add (de_var 2) de_int)))))
      (ds_one (ds_ret (de_add de_int (de_callD G_law_draw (hr.mono (by decide)) (by rfl) (da_cons (de_var 0) (da_cons (de_var 2) da_nil)))))))))

abbrev s_law_at : Stmt := topS 41
theorem sc_law_at : FnScope ["seed", "way"] ["seed", "way"] (defScope s_law_at) := ⟨rfl, rfl, rfl, by decide +kernel, rfl, by decide +kernel, by decide +kernel⟩
theorem ok_law_at (T : Top K mg) (G_law_draw : Def P w K mg base "_law_draw" 1 ["seed", "most"] sp_law_draw) (G_law_fraction : Def P w K mg base "_law_fraction" 1 ["upper", "below"] sp_law_fraction) : Def P w K mg base "_law_at" 2 ["seed", "way"] sp_law_at := by
  refine def_mk (t := t_law_at) T.a_law_at sc_law_at (fun _ _ _ _ _ _ us hl => match us, hl with | [_, _], _ => rfl) len_law_at (fun f cdv A outer s H E hr => ?_) rd_law_at
  exact (ds_cons (ds_if (dt_eq hr (de_var 1) de_int) (ds_one (ds_ret (de_tup (da_cons (de_sub (de_callD G_law_draw (hr.mono (by decide)) (by rfl) (da_cons (de_var 0) (da_cons de_int da_nil))) de_int) (da_cons de_int da_nil))))) ds_nil)
      (ds_cons (ds_if (dt_eq hr (de_var 1) de_int) (ds_one (ds_ret (de_callD G_law_fraction (hr.mono (by decide)) (by rfl) (da_cons (de_sub (de_callD G_law_draw (hr.mono (by decide)) (by rfl) (da_cons (de_var 0) (da_cons de_int da_nil))) de_int) (da_cons (de_add de_int (de_callD G_law_draw (hr.mono (by decide)) (by rfl) (da_cons (de_var 0) (da_cons de_int da_nil)))) da_nil))))) ds_nil)
      (ds_one (ds_ret (de_callD G_law_fraction (hr.mono (by decide)) (by rfl) (da_cons (de_sub (de_callD G_law_draw (hr.mono (by decide)) (by rfl) (da_cons (de_var 0) (da_cons de_int da_nil))) de_int) (da_cons (de_add de_int (de_callD G_law_draw (hr.mono (by decide)) (by rfl) (da_cons (de_var 0) (da_cons (de_atN (dn_lst (da_cons de_int (da_cons de_int da_nil))) (de_callD G_law_draw (hr.mono (by decide)) (by rfl) (da_cons (de_var 0) (da_cons de_int da_nil)))) da_nil)))) da_nil)))))))

abbrev s_law_side : Stmt := topS 40
theorem sc_law_side : FnScope ["one", "other", "far"] ["one", "other"] (defScope s_law_side) := ⟨rfl, rfl, rfl, by decide +kernel, rfl, by decide +kernel, by decide +kernel⟩
theorem ok_law_side (T : Top K mg) : Def P w K mg base "_law_side" 1 ["one", "other"] sp_law_side := by
  refine def_mk (t := t_law_side) T.a_law_side sc_law_side (fun _ _ _ _ _ _ us hl => match us, hl with | [_, _], _ => rfl) len_law_side (fun f cdv A outer s H E hr => ?_) rd_law_side
  exact (ds_cons (ds_set (i := 2) sc_law_side.nd rfl (by first | exact Or.inl rfl | exact Or.inr rfl) (de_sub (de_mul (de_at (de_var 0) de_int) (de_at (de_var 1) de_int)) (de_mul (de_at (de_var 1) de_int) (de_at (de_var 0) de_int))))
      (ds_one (ds_ret (de_sub (de_intOf (by rfl) T.b_int (da_cons (de_gt (de_var 2) de_int) da_nil)) (de_intOf (by rfl) T.b_int (da_cons (de_lt (de_var 2) de_int) da_nil))))))

abbrev s_law_put_at : Stmt := topS 42
theorem sc_law_put_at : FnScope ["ats", "one", "k", "side"] ["ats", "one"] (defScope s_law_put_at) := ⟨rfl, rfl, rfl, by decide +kernel, rfl, by decide +kernel, by decide +kernel⟩
theorem ok_law_put_at (T : Top K mg) (G_law_side : Def P w K mg base "_law_side" 1 ["one", "other"] sp_law_side) : Def P w K mg base "_law_put_at" 2 ["ats", "one"] sp_law_put_at := by
  refine def_mk (t := t_law_put_at) T.a_law_put_at sc_law_put_at (fun _ _ _ _ _ _ us hl => match us, hl with | [_, _], _ => rfl) len_law_put_at (fun f cdv A outer s H E hr => ?_) rd_law_put_at
  exact (ds_cons (ds_for PassesOwn.never (by rfl) (di_range1 (by rfl) T.b_range (de_len (by rfl) T.b_len (da_cons (de_var 0) da_nil))) (dg_name (i := 2) sc_law_put_at.nd rfl (by first | exact Or.inl rfl | exact Or.inr rfl)) (ds_cons (ds_set (i := 3) sc_law_put_at.nd rfl (by first | exact Or.inl rfl | exact Or.inr rfl) (de_callD G_law_side (hr.mono (by decide)) (by rfl) (da_cons (de_var 1) (da_cons (de_at (de_var 0) (de_var 2)) da_nil))))
      (ds_one (ds_if (dt_leA hr (de_var 3) de_int) (ds_one (ds_ret (de_add (de_new (dn_catNN (dn_cut (de_var 0) do_none (do_some (de_var 2))) (dn_rep (dn_lst (da_cons (de_var 1) da_nil)) (de_intOf (by rfl) T.b_int (da_cons (de_ne hr (de_var 3) de_int) da_nil))))) (de_cut (de_var 0) (do_some (de_var 2)) do_none)))) ds_nil))))
      (ds_one (ds_ret (de_new (dn_catEN (de_var 0) (dn_lst (da_cons (de_var 1) da_nil)))))))

abbrev s_law_map : Stmt := topS 43
theorem sc_law_map : FnScope ["seed", "most", "way", "ats", "k", "mood", "knots", "at", "ahead", "some", "kind", "to"] ["seed", "most"] (defScope s_law_map) := ⟨rfl, rfl, rfl, by decide +kernel, rfl, by decide +kernel, by decide +kernel⟩
theorem ok_law_map (T : Top K mg) (G_law_at : Def P w K mg base "_law_at" 2 ["seed", "way"] sp_law_at) (G_law_draw : Def P w K mg base "_law_draw" 1 ["seed", "most"] sp_law_draw) (G_law_less : Def P w K mg base "_law_less" 3 ["one", "other"] sp_law_less) (G_law_plus : Def P w K mg base "_law_plus" 2 ["one", "other"] sp_law_plus) (G_law_put_at : Def P w K mg base "_law_put_at" 2 ["ats", "one"] sp_law_put_at) (G_law_side : Def P w K mg base "_law_side" 1 ["one", "other"] sp_law_side) : Def P w K mg base "_law_map" 4 ["seed", "most"] sp_law_map := by
  refine def_mk (t := t_law_map) T.a_law_map sc_law_map (fun _ _ _ _ _ _ us hl => match us, hl with | [_, _], _ => rfl) len_law_map (fun f cdv A outer s H E hr => ?_) rd_law_map
  exact (ds_cons (ds_set (i := 2) sc_law_map.nd rfl (by first | exact Or.inl rfl | exact Or.inr rfl) (de_callD G_law_draw (hr.mono (by decide)) (by rfl) (da_cons (de_var 0) (da_cons de_int da_nil))))
      (ds_cons (ds_setN (i := 3) sc_law_map.nd rfl (by first | exact Or.inl rfl | exact Or.inr rfl) (dn_lst da_nil))
      (ds_cons (ds_for PassesOwn.never (by rfl) (di_range1 (by rfl) T.b_range (de_add de_int (de_callD G_law_draw (hr.mono (by decide)) (by rfl) (da_cons (de_var 0) (da_cons (de_add (de_var 1) de_int) da_nil))))) (dg_name (i := 4) sc_law_map.nd rfl (by first | exact Or.inl rfl | exact Or.inr rfl)) (ds_one (ds_set (i := 3) sc_law_map.nd rfl (by first | exact Or.inl rfl | exact Or.inr rfl) (de_callD G_law_put_at (hr.mono (by decide)) (by rfl) (da_cons (de_var 3) (da_cons (de_callD G_law_at (hr.mono (by decide)) (by rfl) (da_cons (de_var 0) (da_cons (de_var 2) da_nil))) da_nil))))))
      (ds_cons (ds_set (i := 3) sc_law_map.nd rfl (by first | exact Or.inl rfl | exact Or.inr rfl) (de_cut (de_var 3) do_none (do_some (de_var 1))))
      (ds_cons (ds_if (dt_lt (de_len (by rfl) T.b_len (da_cons (de_var 3) da_nil)) de_int) (ds_one (ds_setN (i := 3) sc_law_map.nd rfl (by first | exact Or.inl rfl | exact Or.inr rfl) (dn_lst (da_cons (de_tup (da_cons (de_neg de_int) (da_cons de_int da_nil))) (da_cons (de_tup (da_cons de_int (da_cons de_int da_nil))) da_nil))))) ds_nil)
      (ds_cons (ds_set (i := 5) sc_law_map.nd rfl (by first | exact Or.inl rfl | exact Or.inr rfl) (de_callD G_law_draw (hr.mono (by decide)) (by rfl) (da_cons (de_var 0) (da_cons de_int da_nil))))
      (ds_cons (ds_setN (i := 6) sc_law_map.nd rfl (by first | exact Or.inl rfl | exact Or.inr rfl) (dn_lst da_nil))
      (ds_cons (ds_for PassesOwn.never (by rfl) (di_row (de_var 3)) (dg_name (i := 7) sc_law_map.nd rfl (by first | exact Or.inl rfl | exact Or.inr rfl)) (ds_cons (ds_set (i := 8) sc_law_map.nd rfl (by first | exact Or.inl rfl | exact Or.inr rfl) (de_at (de_atN (dn_catEN (de_var 6) (dn_lst (da_cons (de_tup (da_cons (de_var 7) (da_cons (de_var 7) da_nil))) da_nil))) (de_sub (de_neg de_int) (de_intOf (by rfl) T.b_int (da_cons (de_neN hr (de_var 6) (dn_lst da_nil)) da_nil)))) de_int))
      (ds_cons (ds_setN (i := 9) sc_law_map.nd rfl (by first | exact Or.inl rfl | exact Or.inr rfl) (dn_lst (da_cons (de_at (de_var 3) (de_callD G_law_draw (hr.mono (by decide)) (by rfl) (da_cons (de_var 0) (da_cons (de_len (by rfl) T.b_len (da_cons (de_var 3) da_nil)) da_nil)))) (da_cons (de_var 7) (da_cons (de_var 8) (da_cons (de_at (de_var 3) de_int) (da_cons (de_at (de_var 3) (de_neg de_int)) (da_cons (de_callD G_law_at (hr.mono (by decide)) (by rfl) (da_cons (de_var 0) (da_cons (de_var 2) da_nil))) da_nil))))))))
      (ds_cons (ds_set (i := 10) sc_law_map.nd rfl (by first | exact Or.inl rfl | exact Or.inr rfl) (de_atN (dn_lst (da_cons de_int (da_cons (de_add de_int (de_mod (de_len (by rfl) T.b_len (da_cons (de_var 6) da_nil)) de_int)) (da_cons (de_intOf (by rfl) T.b_int (da_cons (de_gt (de_callD G_law_draw (hr.mono (by decide)) (by rfl) (da_cons (de_var 0) (da_cons de_int da_nil))) de_int) da_nil)) (da_cons (de_callD G_law_draw (hr.mono (by decide)) (by rfl) (da_cons (de_var 0) (da_cons de_int da_nil))) (da_cons (de_callD G_law_draw (hr.mono (by decide)) (by rfl) (da_cons (de_var 0) (da_cons de_int da_nil))) da_nil)))))) (de_var 5)))
      (ds_cons (ds_set (i := 11) sc_law_map.nd rfl (by first | exact Or.inl rfl | exact Or.inr rfl) (de_at (de_var 9) (de_var 10)))
      (ds_cons (ds_if (DW.t (dw_and (dt_eq hr (de_var 5) de_int) (dw_and (dt_lt (de_var 2) de_int) (dw_and1 (dt_gt (de_callD G_law_draw (hr.mono (by decide)) (by rfl) (da_cons (de_var 0) (da_cons de_int da_nil))) de_int))))) (ds_one (ds_set (i := 11) sc_law_map.nd rfl (by first | exact Or.inl rfl | exact Or.inr rfl) (de_callD G_law_less (hr.mono (by decide)) (by rfl) (da_cons (de_callD G_law_plus (hr.mono (by decide)) (by rfl) (da_cons (de_at (de_var 3) de_int) (da_cons (de_at (de_var 3) (de_neg de_int)) da_nil))) (da_cons (de_var 7) da_nil))))) ds_nil)
      (ds_cons (ds_if (DW.t (dw_or (dt_lt (de_callD G_law_side (hr.mono (by decide)) (by rfl) (da_cons (de_var 11) (da_cons (de_at (de_var 3) de_int) da_nil))) de_int) (dw_or1 (dt_gt (de_callD G_law_side (hr.mono (by decide)) (by rfl) (da_cons (de_var 11) (da_cons (de_at (de_var 3) (de_neg de_int)) da_nil))) de_int)))) (ds_one (ds_set (i := 11) sc_law_map.nd rfl (by first | exact Or.inl rfl | exact Or.inr rfl) (de_at (de_var 3) (de_callD G_law_draw (hr.mono (by decide)) (by rfl) (da_cons (de_var 0) (da_cons (de_len (by rfl) T.b_len (da_cons (de_var 3) da_nil)) da_nil)))))) ds_nil)
      (ds_one (ds_expr (de_append (de_var 6) (da_cons (de_tup (da_cons (de_var 7) (da_cons (de_var 11) da_nil))) da_nil)))))))))))
      (ds_one (ds_ret (de_tupleOf (by rfl) T.b_tuple (da_cons (de_var 6) da_nil))))))))))))

abbrev s_law_mirrored : Stmt := topS 52
theorem sc_law_mirrored : FnScope ["rows", "found", "row", "about", "at", "k", "point"] ["rows"] (defScope s_law_mirrored) := ⟨rfl, rfl, rfl, by decide +kernel, rfl, by decide +kernel, by decide +kernel⟩
theorem ok_law_mirrored (T : Top K mg) (G_law_side : Def P w K mg base "_law_side" 1 ["one", "other"] sp_law_side) : Def P w K mg base "_law_mirrored" 2 ["rows"] sp_law_mirrored := by
  refine def_mk (t := t_law_mirrored) T.a_law_mirrored sc_law_mirrored (fun _ _ _ _ _ _ us hl => match us, hl with | [_], _ => rfl) len_law_mirrored (fun f cdv A outer s H E hr => ?_) rd_law_mirrored
  exact (ds_cons (ds_setN (i := 1) sc_law_mirrored.nd rfl (by first | exact Or.inl rfl | exact Or.inr rfl) (dn_lst da_nil))
      (ds_cons (ds_for PassesOwn.never (by rfl) (di_row (de_var 0)) (dg_name (i := 2) sc_law_mirrored.nd rfl (by first | exact Or.inl rfl | exact Or.inr rfl)) (ds_cons (ds_setLc (i := 3) (own := [("point", 6)]) (by rfl) sc_law_mirrored.nd rfl rfl (sw_true rfl rfl rfl (by decide +kernel)) (di_row (de_var 2)) (blkOk_by (show blkC ["rows", "found", "row", "about", "at", "k", "point"] (defScope s_law_mirrored) _ _ = true by decide +kernel)) (fun _ _ _ _ _ => (dgw_name (i := 6) sc_law_mirrored.nd rfl (by first | exact Or.inl rfl | exact Or.inr rfl))) (fun _ _ _ _ _ => dts_nil) (fun _ _ _ _ _ => (de_tup (da_cons (de_sub de_int (de_at (de_var 6) de_int)) (da_cons (de_at (de_var 6) de_int) da_nil)))))
      (ds_cons (ds_set (i := 4) sc_law_mirrored.nd rfl (by first | exact Or.inl rfl | exact Or.inr rfl) de_int)
      (ds_cons (ds_for PassesOwn.never (by rfl) (di_range1 (by rfl) T.b_range (de_len (by rfl) T.b_len (da_cons (de_var 3) da_nil))) (dg_name (i := 5) sc_law_mirrored.nd rfl (by first | exact Or.inl rfl | exact Or.inr rfl)) (ds_one (ds_if (dt_lt (de_callD G_law_side (hr.mono (by decide)) (by rfl) (da_cons (de_at (de_var 3) (de_var 5)) (da_cons (de_at (de_var 3) (de_var 4)) da_nil))) de_int) (ds_one (ds_set (i := 4) sc_law_mirrored.nd rfl (by first | exact Or.inl rfl | exact Or.inr rfl) (de_var 5))) ds_nil)))
      (ds_one (ds_expr (de_append (de_var 1) (da_cons (de_tupleOf (by rfl) T.b_tuple (da_cons (de_add (de_cut (de_var 3) (do_some (de_var 4)) do_none) (de_cut (de_var 3) do_none (do_some (de_var 4)))) da_nil)) da_nil))))))))
      (ds_one (ds_ret (de_var 1)))))

abbrev s_law_after : Stmt := topS 47
theorem sc_law_after : FnScope ["knots", "point", "many", "turn"] ["knots", "point", "many"] (defScope s_law_after) := ⟨rfl, rfl, rfl, by decide +kernel, rfl, by decide +kernel, by decide +kernel⟩
theorem ok_law_after (T : Top K mg) (G_value_of : Def P w K mg base "value_of" 4 ["knots", "point"] sp_value_of) : Def P w K mg base "_law_after" 5 ["knots", "point", "many"] sp_law_after := by
  refine def_mk (t := t_law_after) T.a_law_after sc_law_after (fun _ _ _ _ _ _ us hl => match us, hl with | [_, _, _], _ => rfl) len_law_after (fun f cdv A outer s H E hr => ?_) rd_law_after
  exact (ds_cons (ds_for PassesOwn.never (by rfl) (di_range1 (by rfl) T.b_range (de_var 2)) (dg_name (i := 3) sc_law_after.nd rfl (by first | exact Or.inl rfl | exact Or.inr rfl)) (ds_one (ds_set (i := 1) sc_law_after.nd rfl (by first | exact Or.inl rfl | exact Or.inr rfl) (de_callD G_value_of (hr.mono (by decide)) (by rfl) (da_cons (de_var 0) (da_cons (de_var 1) da_nil))))))
      (ds_one (ds_ret (de_var 1))))

abbrev s_law_lies : Stmt := topS 49
theorem sc_law_lies : FnScope ["pair", "pairs", "low", "high"] ["pair", "pairs"] (defScope s_law_lies) := ⟨rfl, rfl, rfl, by decide +kernel, rfl, by decide +kernel, by decide +kernel⟩
theorem ok_law_lies (T : Top K mg) (G_law_side : Def P w K mg base "_law_side" 1 ["one", "other"] sp_law_side) : Def P w K mg base "_law_lies" 2 ["pair", "pairs"] sp_law_lies := by
  refine def_mk (t := t_law_lies) T.a_law_lies sc_law_lies (fun _ _ _ _ _ _ us hl => match us, hl with | [_, _], _ => rfl) len_law_lies (fun f cdv A outer s H E hr => ?_) rd_law_lies
  exact (ds_one (ds_ret (de_neNN hr (dn_lc (own := [("low", 2), ("high", 3)]) (by rfl) sc_law_lies.nd (di_row (de_var 1)) (blkOk_by (show blkC ["pair", "pairs", "low", "high"] (defScope s_law_lies) _ _ = true by decide +kernel)) (fun _ _ _ _ _ => (dgw_tup (by rfl) (dgws_cons (dgw_name (i := 2) sc_law_lies.nd rfl (by first | exact Or.inl rfl | exact Or.inr rfl)) (dgws_cons (dgw_name (i := 3) sc_law_lies.nd rfl (by first | exact Or.inl rfl | exact Or.inr rfl)) dgws_nil)))) (fun _ _ _ _ _ => (dts_one (DW.t (dw_and (dt_leA hr (de_callD G_law_side (hr.mono (by decide)) (by rfl) (da_cons (de_var 2) (da_cons (de_at (de_var 0) de_int) da_nil))) de_int) (dw_and1 (dt_leA hr (de_callD G_law_side (hr.mono (by decide)) (by rfl) (da_cons (de_at (de_var 0) de_int) (da_cons (de_var 3) da_nil))) de_int)))))) (fun _ _ _ _ _ => de_int)) (dn_lst da_nil))))

abbrev s_law_middle : Stmt := topS 48
theorem sc_law_middle : FnScope ["pair"] ["pair"] (defScope s_law_middle) := ⟨rfl, rfl, rfl, by decide +kernel, rfl, by decide +kernel, by decide +kernel⟩
theorem ok_law_middle (T : Top K mg) (G_law_over : Def P w K mg base "_law_over" 2 ["one", "other"] sp_law_over) (G_law_plus : Def P w K mg base "_law_plus" 2 ["one", "other"] sp_law_plus) : Def P w K mg base "_law_middle" 3 ["pair"] sp_law_middle := by
  refine def_mk (t := t_law_middle) T.a_law_middle sc_law_middle (fun _ _ _ _ _ _ us hl => match us, hl with | [_], _ => rfl) len_law_middle (fun f cdv A outer s H E hr => ?_) rd_law_middle
  exact (ds_one (ds_ret (de_callD G_law_over (hr.mono (by decide)) (by rfl) (da_cons (de_callD G_law_plus (hr.mono (by decide)) (by rfl) (da_cons (de_at (de_var 0) de_int) (da_cons (de_at (de_var 0) de_int) da_nil))) (da_cons (de_tup (da_cons de_int (da_cons de_int da_nil))) da_nil)))))

abbrev s_law_round_right : Stmt := topS 50
theorem sc_law_round_right : FnScope ["knots", "told", "many", "pair", "point", "value"] ["knots", "told", "many"] (defScope s_law_round_right) := ⟨rfl, rfl, rfl, by decide +kernel, rfl, by decide +kernel, by decide +kernel⟩
theorem ok_law_round_right (T : Top K mg) (G_law_after : Def P w K mg base "_law_after" 5 ["knots", "point", "many"] sp_law_after) (G_law_lies : Def P w K mg base "_law_lies" 2 ["pair", "pairs"] sp_law_lies) (G_law_middle : Def P w K mg base "_law_middle" 3 ["pair"] sp_law_middle) (G_value_of : Def P w K mg base "value_of" 4 ["knots", "point"] sp_value_of) : Def P w K mg base "_law_round_right" 6 ["knots", "told", "many"] sp_law_round_right := by
  refine def_mk (t := t_law_round_right) T.a_law_round_right sc_law_round_right (fun _ _ _ _ _ _ us hl => match us, hl with | [_, _, _], _ => rfl) len_law_round_right (fun f cdv A outer s H E hr => ?_) rd_law_round_right
  exact (ds_cons (ds_for PassesOwn.never (by rfl) (di_row (de_var 1)) (dg_name (i := 3) sc_law_round_right.nd rfl (by first | exact Or.inl rfl | exact Or.inr rfl)) (ds_one (ds_for PassesOwn.never (by rfl) (di_new (dn_lst (da_cons (de_at (de_var 3) de_int) (da_cons (de_callD G_law_middle (hr.mono (by decide)) (by rfl) (da_cons (de_var 3) da_nil)) (da_cons (de_at (de_var 3) de_int) da_nil))))) (dg_name (i := 4) sc_law_round_right.nd rfl (by first | exact Or.inl rfl | exact Or.inr rfl)) (ds_cons (ds_if (dt_ne hr (de_callD G_law_after (hr.mono (by decide)) (by rfl) (da_cons (de_var 0) (da_cons (de_var 4) (da_cons (de_var 2) da_nil)))) (de_var 4)) (ds_one (ds_ret de_bl)) ds_nil)
      (ds_cons (ds_set (i := 5) sc_law_round_right.nd rfl (by first | exact Or.inl rfl | exact Or.inr rfl) (de_callD G_value_of (hr.mono (by decide)) (by rfl) (da_cons (de_var 0) (da_cons (de_var 4) da_nil))))
      (ds_one (ds_if (dt_not (dt_val (de_callD G_law_lies (hr.mono (by decide)) (by rfl) (da_cons (de_tup (da_cons (de_var 5) (da_cons (de_var 5) da_nil))) (da_cons (de_var 1) da_nil))))) (ds_one (ds_ret de_bl)) ds_nil)))))))
      (ds_one (ds_ret de_bl)))

abbrev s_law_seed : Stmt := topS 33
theorem sc_law_seed : FnScope ["cell", "number"] ["cell"] (defScope s_law_seed) := ⟨rfl, rfl, rfl, by decide +kernel, rfl, by decide +kernel, by decide +kernel⟩
theorem ok_law_seed (T : Top K mg) : Def P w K mg base "_law_seed" 1 ["cell"] sp_law_seed := by
  refine def_mk (t := t_law_seed) T.a_law_seed sc_law_seed (fun _ _ _ _ _ _ us hl => match us, hl with | [_], _ => rfl) len_law_seed (fun f cdv A outer s H E hr => ?_) rd_law_seed
  exact (ds_cons (ds_set (i := 1) sc_law_seed.nd rfl (by first | exact Or.inl rfl | exact Or.inr rfl) (de_max2 (by rfl) (by rfl) T.b_max (da_cons (de_var 0) (da_cons (de_sub de_int (de_var 0)) da_nil))))
      (ds_one (ds_ret (de_new (dn_lst (da_cons (de_var 1) (da_cons (de_intOf (by rfl) T.b_int (da_cons (de_ge (de_var 1) (de_pow de_int de_int)) da_nil)) (da_cons de_int (da_cons (de_mod (de_var 0) de_int) da_nil)))))))))

abbrev s_law_singles_right : Stmt := topS 51
theorem sc_law_singles_right : FnScope ["knots", "told", "many", "singles", "found", "length", "row", "low", "high", "pair", "k", "point"] ["knots", "told", "many"] (defScope s_law_singles_right) := ⟨rfl, rfl, rfl, by decide +kernel, rfl, by decide +kernel, by decide +kernel⟩
theorem ok_law_singles_right (T : Top K mg) (G_law_lies : Def P w K mg base "_law_lies" 2 ["pair", "pairs"] sp_law_lies) (G_come_round : Def P w K mg base "come_round" 7 ["knots", "many"] sp_come_round) (G_rounds_of : Def P w K mg base "rounds_of" 8 ["knots", "many"] sp_rounds_of) (G_value_of : Def P w K mg base "value_of" 4 ["knots", "point"] sp_value_of) : Def P w K mg base "_law_singles_right" 9 ["knots", "told", "many"] sp_law_singles_right := by
  refine def_mk (t := t_law_singles_right) T.a_law_singles_right sc_law_singles_right (fun _ _ _ _ _ _ us hl => match us, hl with | [_, _, _], _ => rfl) len_law_singles_right (fun f cdv A outer s H E hr => ?_) rd_law_singles_right
  exact (ds_cons (ds_setN (i := 3) sc_law_singles_right.nd rfl (by first | exact Or.inl rfl | exact Or.inr rfl) (dn_lc (own := [("low", 7), ("high", 8)]) (by rfl) sc_law_singles_right.nd (di_row (de_var 1)) (blkOk_by (show blkC ["knots", "told", "many", "singles", "found", "length", "row", "low", "high", "pair", "k", "point"] (defScope s_law_singles_right) _ _ = true by decide +kernel)) (fun _ _ _ _ _ => (dgw_tup (by rfl) (dgws_cons (dgw_name (i := 7) sc_law_singles_right.nd rfl (by first | exact Or.inl rfl | exact Or.inr rfl)) (dgws_cons (dgw_name (i := 8) sc_law_singles_right.nd rfl (by first | exact Or.inl rfl | exact Or.inr rfl)) dgws_nil)))) (fun _ _ _ _ _ => (dts_one (dt_eq hr (de_var 7) (de_var 8)))) (fun _ _ _ _ _ => (de_var 7))))
      (ds_cons (ds_setN (i := 4) sc_law_singles_right.nd rfl (by first | exact Or.inl rfl | exact Or.inr rfl) (dn_lst da_nil))
      (ds_cons (ds_for PassesOwn.never (by rfl) (di_range2 (by rfl) T.b_range de_int (de_add (de_var 2) de_int)) (dg_name (i := 5) sc_law_singles_right.nd rfl (by first | exact Or.inl rfl | exact Or.inr rfl)) (ds_one (ds_if (dt_eq hr (de_mod (de_var 2) (de_var 5)) de_int) (ds_cons (ds_if (dt_neNN hr (dn_lc (own := [("pair", 9)]) (by rfl) sc_law_singles_right.nd (di_row (de_callD G_come_round (hr.mono (by decide)) (by rfl) (da_cons (de_var 0) (da_cons (de_var 5) da_nil)))) (blkOk_by (show blkC ["knots", "told", "many", "singles", "found", "length", "row", "low", "high", "pair", "k", "point"] (defScope s_law_singles_right) _ _ = true by decide +kernel)) (fun _ _ _ _ _ => (dgw_name (i := 9) sc_law_singles_right.nd rfl (by first | exact Or.inl rfl | exact Or.inr rfl))) (fun _ _ _ _ _ => (dts_one (dt_not (dt_val (de_callD G_law_lies (hr.mono (by decide)) (by rfl) (da_cons (de_var 9) (da_cons (de_var 1) da_nil))))))) (fun _ _ _ _ _ => de_int)) (dn_lst da_nil)) (ds_one (ds_ret de_bl)) ds_nil)
      (ds_one (ds_for PassesOwn.never (by rfl) (di_row (de_callD G_rounds_of (hr.mono (by decide)) (by rfl) (da_cons (de_var 0) (da_cons (de_var 5) da_nil)))) (dg_name (i := 6) sc_law_singles_right.nd rfl (by first | exact Or.inl rfl | exact Or.inr rfl)) (ds_cons (ds_if (dt_neNN hr (dn_lc (own := [("k", 10)]) (by rfl) sc_law_singles_right.nd (di_range1 (by rfl) T.b_range (de_var 5)) (blkOk_by (show blkC ["knots", "told", "many", "singles", "found", "length", "row", "low", "high", "pair", "k", "point"] (defScope s_law_singles_right) _ _ = true by decide +kernel)) (fun _ _ _ _ _ => (dgw_name (i := 10) sc_law_singles_right.nd rfl (by first | exact Or.inl rfl | exact Or.inr rfl))) (fun _ _ _ _ _ => (dts_one (dt_ne hr (de_callD G_value_of (hr.mono (by decide)) (by rfl) (da_cons (de_var 0) (da_cons (de_at (de_var 6) (de_sub (de_var 10) de_int)) da_nil))) (de_at (de_var 6) (de_var 10))))) (fun _ _ _ _ _ => de_int)) (dn_lst da_nil)) (ds_one (ds_ret de_bl)) ds_nil)
      (ds_one (ds_expr (de_extN (de_var 4) (dn_lc (own := [("point", 11)]) (by rfl) sc_law_singles_right.nd (di_row (de_var 6)) (blkOk_by (show blkC ["knots", "told", "many", "singles", "found", "length", "row", "low", "high", "pair", "k", "point"] (defScope s_law_singles_right) _ _ = true by decide +kernel)) (fun _ _ _ _ _ => (dgw_name (i := 11) sc_law_singles_right.nd rfl (by first | exact Or.inl rfl | exact Or.inr rfl))) (fun _ _ _ _ _ => (dts_one (DW.t (dw_or (dt_eq hr (de_var 5) (de_var 2)) (dw_or1 (dt_in hr (de_var 11) (de_var 3))))))) (fun _ _ _ _ _ => (de_var 11)))))))))) ds_nil)))
      (ds_one (ds_ret (de_eqNN hr (dn_sortedD hr (by rfl) T.b_sorted (de_var 4)) (dn_sortedD hr (by rfl) T.b_sorted (de_var 3))))))))

abbrev s_law : Stmt := topS 54
theorem sc_law : FnScope ["script", "cell", "seed", "knots", "bends", "many", "told", "longer", "other", "at", "to"] ["script"] (defScope s_law) := ⟨rfl, rfl, rfl, by decide +kernel, rfl, by decide +kernel, by decide +kernel⟩
theorem ok_law (T : Top K mg) (G_law_bends : Def P w K mg base "_law_bends" 4 ["knots"] sp_law_bends) (G_law_draw : Def P w K mg base "_law_draw" 1 ["seed", "most"] sp_law_draw) (G_law_filled : Def P w K mg base "_law_filled" 3 ["seed", "knots"] sp_law_filled) (G_law_folded : Def P w K mg base "_law_folded" 1 ["script"] sp_law_folded) (G_law_longer_right : Def P w K mg base "_law_longer_right" 9 ["longer", "told"] sp_law_longer_right) (G_law_many : Def P w K mg base "_law_many" 2 ["seed", "pieces"] sp_law_many) (G_law_map : Def P w K mg base "_law_map" 4 ["seed", "most"] sp_law_map) (G_law_mirrored : Def P w K mg base "_law_mirrored" 2 ["rows"] sp_law_mirrored) (G_law_round_right : Def P w K mg base "_law_round_right" 6 ["knots", "told", "many"] sp_law_round_right) (G_law_seed : Def P w K mg base "_law_seed" 1 ["cell"] sp_law_seed) (G_law_singles_right : Def P w K mg base "_law_singles_right" 9 ["knots", "told", "many"] sp_law_singles_right) (G_come_round : Def P w K mg base "come_round" 7 ["knots", "many"] sp_come_round) (G_rounds_of : Def P w K mg base "rounds_of" 8 ["knots", "many"] sp_rounds_of) (G_turned : Def P w K mg base "turned" 6 ["knots", "many"] sp_turned) {f : Addr} {fd : FuncData} (F : Fun K "law" "law" (topS 54) f fd) : FnOk P w K mg base CX0 10 f fd ["script"] (lSp K sp_law) := by
  refine fn_mk (t := t_law) F sc_law len_law (fun cdv A outer s H E hr => ?_) rd_law
  exact (ds_cons (ds_for PassesOwn.never (by rfl) (di_new (dn_cutN (dn_catXN (de_var 0) (dn_lst (da_cons (de_callD G_law_folded (hr.mono (by decide)) (by rfl) (da_cons (de_var 0) da_nil)) da_nil))) do_none (do_some de_int))) (dg_name (i := 1) sc_law.nd rfl (by first | exact Or.inl rfl | exact Or.inr rfl)) (ds_cons (ds_set (i := 2) sc_law.nd rfl (by first | exact Or.inl rfl | exact Or.inr rfl) (de_callD G_law_seed (hr.mono (by decide)) (by rfl) (da_cons (de_var 1) da_nil)))
      (ds_cons (ds_set (i := 3) sc_law.nd rfl (by first | exact Or.inl rfl | exact Or.inr rfl) (de_callD G_law_map (hr.mono (by decide)) (by rfl) (da_cons (de_var 2) (da_cons (de_atN (dn_lst (da_cons de_int (da_cons de_int (da_cons de_int (da_cons de_int da_nil))))) (de_callD G_law_draw (hr.mono (by decide)) (by rfl) (da_cons (de_var 2) (da_cons de_int da_nil)))) da_nil))))
      (ds_cons (ds_if (dt_eq hr (de_callD G_law_draw (hr.mono (by decide)) (by rfl) (da_cons (de_var 2) (da_cons de_int da_nil))) de_int) (ds_one (ds_set (i := 3) sc_law.nd rfl (by first | exact Or.inl rfl | exact Or.inr rfl) (de_callD G_law_filled (hr.mono (by decide)) (by rfl) (da_cons (de_var 2) (da_cons (de_var 3) da_nil))))) ds_nil)
      (ds_cons (ds_set (i := 4) sc_law.nd rfl (by first | exact Or.inl rfl | exact Or.inr rfl) (de_callD G_law_bends (hr.mono (by decide)) (by rfl) (da_cons (de_var 3) da_nil)))
      (ds_cons (ds_set (i := 5) sc_law.nd rfl (by first | exact Or.inl rfl | exact Or.inr rfl) (de_callD G_law_many (hr.mono (by decide)) (by rfl) (da_cons (de_var 2) (da_cons (de_sub (de_len (by rfl) T.b_len (da_cons (de_var 4) da_nil)) de_int) da_nil))))
      (ds_cons (ds_set (i := 6) sc_law.nd rfl (by first | exact Or.inl rfl | exact Or.inr rfl) (de_callD G_come_round (hr.mono (by decide)) (by rfl) (da_cons (de_var 3) (da_cons (de_var 5) da_nil))))
      (ds_cons (ds_if (DW.t (dw_or (dt_not (dt_val (de_callD G_law_round_right (hr.mono (by decide)) (by rfl) (da_cons (de_var 3) (da_cons (de_var 6) (da_cons (de_var 5) da_nil)))))) (dw_or1 (dt_not (dt_val (de_callD G_law_singles_right (hr.mono (by decide)) (by rfl) (da_cons (de_var 3) (da_cons (de_var 6) (da_cons (de_var 5) da_nil))))))))) (ds_one (ds_ret de_bl)) ds_nil)
      (ds_cons (ds_set (i := 7) sc_law.nd rfl (by first | exact Or.inl rfl | exact Or.inr rfl) (de_callD G_turned (hr.mono (by decide)) (by rfl) (da_cons (de_var 3) (da_cons (de_var 5) da_nil))))
      (ds_cons (ds_if (DW.t (dw_and (dt_lt (de_len (by rfl) T.b_len (da_cons (de_var 7) da_nil)) de_int) (dw_and1 (dt_not (dt_val (de_callD G_law_longer_right (hr.mono (by decide)) (by rfl) (da_cons (de_var 7) (da_cons (de_var 6) da_nil)))))))) (ds_one (ds_ret de_bl)) ds_nil)
      (ds_cons (ds_set (i := 8) sc_law.nd rfl (by first | exact Or.inl rfl | exact Or.inr rfl) (de_step (de_tupN (by rfl) T.b_tuple (dn_lc (own := [("at", 9), ("to", 10)]) (by rfl) sc_law.nd (di_row (de_var 3)) (blkOk_by (show blkC ["script", "cell", "seed", "knots", "bends", "many", "told", "longer", "other", "at", "to"] (defScope s_law) _ _ = true by decide +kernel)) (fun _ _ _ _ _ => (dgw_tup (by rfl) (dgws_cons (dgw_name (i := 9) sc_law.nd rfl (by first | exact Or.inl rfl | exact Or.inr rfl)) (dgws_cons (dgw_name (i := 10) sc_law.nd rfl (by first | exact Or.inl rfl | exact Or.inr rfl)) dgws_nil)))) (fun _ _ _ _ _ => dts_nil) (fun _ _ _ _ _ => (de_tup (da_cons (de_tup (da_cons (de_sub de_int (de_at (de_var 9) de_int)) (da_cons (de_at (de_var 9) de_int) da_nil))) (da_cons (de_tup (da_cons (de_sub de_int (de_at (de_var 10) de_int)) (da_cons (de_at (de_var 10) de_int) da_nil))) da_nil)))))) (do_some (de_neg de_int))))
      (ds_cons (ds_if (dt_neNN hr (dn_sortedD hr (by rfl) T.b_sorted (de_callD G_rounds_of (hr.mono (by decide)) (by rfl) (da_cons (de_var 8) (da_cons (de_var 5) da_nil)))) (dn_sortedD hr (by rfl) T.b_sorted (de_callD G_law_mirrored (hr.mono (by decide)) (by rfl) (da_cons (de_callD G_rounds_of (hr.mono (by decide)) (by rfl) (da_cons (de_var 3) (da_cons (de_var 5) da_nil))) da_nil)))) (ds_one (ds_ret de_bl)) ds_nil)
      (ds_one (ds_if (dt_ne hr (de_new (dn_sgn (dn_listOf (by rfl) T.b_list (de_callD G_come_round (hr.mono (by decide)) (by rfl) (da_cons (de_var 8) (da_cons (de_var 5) da_nil)))) (do_some (de_neg de_int)))) (de_callD G_law_mirrored (hr.mono (by decide)) (by rfl) (da_cons (de_var 6) da_nil))) (ds_one (ds_ret de_bl)) ds_nil))))))))))))))
      (ds_one (ds_ret de_bl)))
end
theorem all_mk {l : PySem.W.OpenLaw} {w : World} {K : PySem.W.Frag} {h : Heap} {mg : Str → Option Value} {fa : Addr} (X : K.In h) (G : h.Ns mainGlobals mg) (hfa : mg "law" = some (.ref fa)) {f0 : Addr} {od0 an0 : Option Addr} {sl0 : Array (Option Value)} {oc0 kV0 dc0 pm0 cd0 ct0 : Value} {f1 : Addr} {od1 an1 : Option Addr} {sl1 : Array (Option Value)} {oc1 kV1 dc1 pm1 cd1 ct1 : Value} {f2 : Addr} {od2 an2 : Option Addr} {sl2 : Array (Option Value)} {oc2 kV2 dc2 pm2 cd2 ct2 : Value} {f3 : Addr} {od3 an3 : Option Addr} {sl3 : Array (Option Value)} {oc3 kV3 dc3 pm3 cd3 ct3 : Value} {f4 : Addr} {od4 an4 : Option Addr} {sl4 : Array (Option Value)} {oc4 kV4 dc4 pm4 cd4 ct4 : Value} {f5 : Addr} {od5 an5 : Option Addr} {sl5 : Array (Option Value)} {oc5 kV5 dc5 pm5 cd5 ct5 : Value} {f6 : Addr} {od6 an6 : Option Addr} {sl6 : Array (Option Value)} {oc6 kV6 dc6 pm6 cd6 ct6 : Value} {f7 : Addr} {od7 an7 : Option Addr} {sl7 : Array (Option Value)} {oc7 kV7 dc7 pm7 cd7 ct7 : Value} {f8 : Addr} {od8 an8 : Option Addr} {sl8 : Array (Option Value)} {oc8 kV8 dc8 pm8 cd8 ct8 : Value} {f9 : Addr} {od9 an9 : Option Addr} {sl9 : Array (Option Value)} {oc9 kV9 dc9 pm9 cd9 ct9 : Value} {f10 : Addr} {od10 an10 : Option Addr} {sl10 : Array (Option Value)} {oc10 kV10 dc10 pm10 cd10 ct10 : Value} {f11 : Addr} {od11 an11 : Option Addr} {sl11 : Array (Option Value)} {oc11 kV11 dc11 pm11 cd11 ct11 : Value} {f12 : Addr} {od12 an12 : Option Addr} {sl12 : Array (Option Value)} {oc12 kV12 dc12 pm12 cd12 ct12 : Value} {f13 : Addr} {od13 an13 : Option Addr} {sl13 : Array (Option Value)} {oc13 kV13 dc13 pm13 cd13 ct13 : Value} {f14 : Addr} {od14 an14 : Option Addr} {sl14 : Array (Option Value)} {oc14 kV14 dc14 pm14 cd14 ct14 : Value} {f15 : Addr} {od15 an15 : Option Addr} {sl15 : Array (Option Value)} {oc15 kV15 dc15 pm15 cd15 ct15 : Value} {f16 : Addr} {od16 an16 : Option Addr} {sl16 : Array (Option Value)} {oc16 kV16 dc16 pm16 cd16 ct16 : Value} {f17 : Addr} {od17 an17 : Option Addr} {sl17 : Array (Option Value)} {oc17 kV17 dc17 pm17 cd17 ct17 : Value} {f18 : Addr} {od18 an18 : Option Addr} {sl18 : Array (Option Value)} {oc18 kV18 dc18 pm18 cd18 ct18 : Value} {f19 : Addr} {od19 an19 : Option Addr} {sl19 : Array (Option Value)} {oc19 kV19 dc19 pm19 cd19 ct19 : Value} {f20 : Addr} {od20 an20 : Option Addr} {sl20 : Array (Option Value)} {oc20 kV20 dc20 pm20 cd20 ct20 : Value} {f21 : Addr} {od21 an21 : Option Addr} {sl21 : Array (Option Value)} {oc21 kV21 dc21 pm21 cd21 ct21 : Value} {f22 : Addr} {od22 an22 : Option Addr} {sl22 : Array (Option Value)} {oc22 kV22 dc22 pm22 cd22 ct22 : Value} {f23 : Addr} {od23 an23 : Option Addr} {sl23 : Array (Option Value)} {oc23 kV23 dc23 pm23 cd23 ct23 : Value} {f24 : Addr} {od24 an24 : Option Addr} {sl24 : Array (Option Value)} {oc24 kV24 dc24 pm24 cd24 ct24 : Value} {f25 : Addr} {od25 an25 : Option Addr} {sl25 : Array (Option Value)} {oc25 kV25 dc25 pm25 cd25 ct25 : Value} {f26 : Addr} {od26 an26 : Option Addr} {sl26 : Array (Option Value)} {oc26 kV26 dc26 pm26 cd26 ct26 : Value} {f27 : Addr} {od27 an27 : Option Addr} {sl27 : Array (Option Value)} {oc27 kV27 dc27 pm27 cd27 ct27 : Value} {f28 : Addr} {od28 an28 : Option Addr} {sl28 : Array (Option Value)} {oc28 kV28 dc28 pm28 cd28 ct28 : Value} {f29 : Addr} {od29 an29 : Option Addr} {sl29 : Array (Option Value)} {oc29 kV29 dc29 pm29 cd29 ct29 : Value} {f30 : Addr} {od30 an30 : Option Addr} {sl30 : Array (Option Value)} {oc30 kV30 dc30 pm30 cd30 ct30 : Value} {f31 : Addr} {od31 an31 : Option Addr} {sl31 : Array (Option Value)} {oc31 kV31 dc31 pm31 cd31 ct31 : Value} {f32 : Addr} {od32 an32 : Option Addr} {sl32 : Array (Option Value)} {oc32 kV32 dc32 pm32 cd32 ct32 : Value} {f33 : Addr} {od33 an33 : Option Addr} {sl33 : Array (Option Value)} {oc33 kV33 dc33 pm33 cd33 ct33 : Value} {f34 : Addr} {od34 an34 : Option Addr} {sl34 : Array (Option Value)} {oc34 kV34 dc34 pm34 cd34 ct34 : Value} {f35 : Addr} {od35 an35 : Option Addr} {sl35 : Array (Option Value)} {oc35 kV35 dc35 pm35 cd35 ct35 : Value} {f36 : Addr} {od36 an36 : Option Addr} {sl36 : Array (Option Value)} {oc36 kV36 dc36 pm36 cd36 ct36 : Value} {f37 : Addr} {od37 an37 : Option Addr} {sl37 : Array (Option Value)} {oc37 kV37 dc37 pm37 cd37 ct37 : Value} {f38 : Addr} {od38 an38 : Option Addr} {sl38 : Array (Option Value)} {oc38 kV38 dc38 pm38 cd38 ct38 : Value} {f39 : Addr} {od39 an39 : Option Addr} {sl39 : Array (Option Value)} {oc39 kV39 dc39 pm39 cd39 ct39 : Value} {f40 : Addr} {od40 an40 : Option Addr} {sl40 : Array (Option Value)} {oc40 kV40 dc40 pm40 cd40 ct40 : Value} {f41 : Addr} {od41 an41 : Option Addr} {sl41 : Array (Option Value)} {oc41 kV41 dc41 pm41 cd41 ct41 : Value} {f42 : Addr} {od42 an42 : Option Addr} {sl42 : Array (Option Value)} {oc42 kV42 dc42 pm42 cd42 ct42 : Value} {f43 : Addr} {od43 an43 : Option Addr} {sl43 : Array (Option Value)} {oc43 kV43 dc43 pm43 cd43 ct43 : Value} {ga_NOUGHT : Addr} {gt_NOUGHT gu_NOUGHT : Tok} {gn_NOUGHT : Nat} {gd_NOUGHT : Option Addr} {gs_NOUGHT : Array (Option Value)}
    (a0 : PySem.W.nsIn K mainGlobals "_law_fraction" = some (some (.ref f0))) (l0 : K.lookup f0 = some ⟨oc0, od0, .func (PySem.W.fnOf "_law_fraction" "_law_fraction" (defArgs (topS 35)) (defBody (topS 35)) (defScope (topS 35)) .none kV0 dc0 pm0 an0 cd0 ct0), sl0⟩) (c0 : PySem.W.codeIn K cd0 "_law_fraction" = true) (k0 : PySem.W.keepIn K (.ref f0) = true)
    (a1 : PySem.W.nsIn K mainGlobals "_law_plus" = some (some (.ref f1))) (l1 : K.lookup f1 = some ⟨oc1, od1, .func (PySem.W.fnOf "_law_plus" "_law_plus" (defArgs (topS 36)) (defBody (topS 36)) (defScope (topS 36)) .none kV1 dc1 pm1 an1 cd1 ct1), sl1⟩) (c1 : PySem.W.codeIn K cd1 "_law_plus" = true) (k1 : PySem.W.keepIn K (.ref f1) = true)
    (a2 : PySem.W.nsIn K mainGlobals "_law_less" = some (some (.ref f2))) (l2 : K.lookup f2 = some ⟨oc2, od2, .func (PySem.W.fnOf "_law_less" "_law_less" (defArgs (topS 38)) (defBody (topS 38)) (defScope (topS 38)) .none kV2 dc2 pm2 an2 cd2 ct2), sl2⟩) (c2 : PySem.W.codeIn K cd2 "_law_less" = true) (k2 : PySem.W.keepIn K (.ref f2) = true)
    (a3 : PySem.W.nsIn K mainGlobals "_law_times" = some (some (.ref f3))) (l3 : K.lookup f3 = some ⟨oc3, od3, .func (PySem.W.fnOf "_law_times" "_law_times" (defArgs (topS 37)) (defBody (topS 37)) (defScope (topS 37)) .none kV3 dc3 pm3 an3 cd3 ct3), sl3⟩) (c3 : PySem.W.codeIn K cd3 "_law_times" = true) (k3 : PySem.W.keepIn K (.ref f3) = true)
    (a4 : PySem.W.nsIn K mainGlobals "_law_bends" = some (some (.ref f4))) (l4 : K.lookup f4 = some ⟨oc4, od4, .func (PySem.W.fnOf "_law_bends" "_law_bends" (defArgs (topS 45)) (defBody (topS 45)) (defScope (topS 45)) .none kV4 dc4 pm4 an4 cd4 ct4), sl4⟩) (c4 : PySem.W.codeIn K cd4 "_law_bends" = true) (k4 : PySem.W.keepIn K (.ref f4) = true)
    (a5 : PySem.W.nsIn K mainGlobals "_law_draw" = some (some (.ref f5))) (l5 : K.lookup f5 = some ⟨oc5, od5, .func (PySem.W.fnOf "_law_draw" "_law_draw" (defArgs (topS 34)) (defBody (topS 34)) (defScope (topS 34)) .none kV5 dc5 pm5 an5 cd5 ct5), sl5⟩) (c5 : PySem.W.codeIn K cd5 "_law_draw" = true) (k5 : PySem.W.keepIn K (.ref f5) = true)
    (a6 : PySem.W.nsIn K mainGlobals "_law_over" = some (some (.ref f6))) (l6 : K.lookup f6 = some ⟨oc6, od6, .func (PySem.W.fnOf "_law_over" "_law_over" (defArgs (topS 39)) (defBody (topS 39)) (defScope (topS 39)) .none kV6 dc6 pm6 an6 cd6 ct6), sl6⟩) (c6 : PySem.W.codeIn K cd6 "_law_over" = true) (k6 : PySem.W.keepIn K (.ref f6) = true)
    (a7 : PySem.W.nsIn K mainGlobals "_law_filled" = some (some (.ref f7))) (l7 : K.lookup f7 = some ⟨oc7, od7, .func (PySem.W.fnOf "_law_filled" "_law_filled" (defArgs (topS 44)) (defBody (topS 44)) (defScope (topS 44)) .none kV7 dc7 pm7 an7 cd7 ct7), sl7⟩) (c7 : PySem.W.codeIn K cd7 "_law_filled" = true) (k7 : PySem.W.keepIn K (.ref f7) = true)
    (a8 : PySem.W.nsIn K mainGlobals "_law_folded" = some (some (.ref f8))) (l8 : K.lookup f8 = some ⟨oc8, od8, .func (PySem.W.fnOf "_law_folded" "_law_folded" (defArgs (topS 32)) (defBody (topS 32)) (defScope (topS 32)) .none kV8 dc8 pm8 an8 cd8 ct8), sl8⟩) (c8 : PySem.W.codeIn K cd8 "_law_folded" = true) (k8 : PySem.W.keepIn K (.ref f8) = true)
    (a9 : PySem.W.nsIn K mainGlobals "frac" = some (some (.ref f9))) (l9 : K.lookup f9 = some ⟨oc9, od9, .func (PySem.W.fnOf "frac" "frac" (defArgs (topS 1)) (defBody (topS 1)) (defScope (topS 1)) .none kV9 dc9 pm9 an9 cd9 ct9), sl9⟩) (c9 : PySem.W.codeIn K cd9 "frac" = true) (k9 : PySem.W.keepIn K (.ref f9) = true)
    (a10 : PySem.W.nsIn K mainGlobals "frac_less" = some (some (.ref f10))) (l10 : K.lookup f10 = some ⟨oc10, od10, .func (PySem.W.fnOf "frac_less" "frac_less" (defArgs (topS 3)) (defBody (topS 3)) (defScope (topS 3)) .none kV10 dc10 pm10 an10 cd10 ct10), sl10⟩) (c10 : PySem.W.codeIn K cd10 "frac_less" = true) (k10 : PySem.W.keepIn K (.ref f10) = true)
    (a11 : PySem.W.nsIn K mainGlobals "frac_side" = some (some (.ref f11))) (l11 : K.lookup f11 = some ⟨oc11, od11, .func (PySem.W.fnOf "frac_side" "frac_side" (defArgs (topS 6)) (defBody (topS 6)) (defScope (topS 6)) .none kV11 dc11 pm11 an11 cd11 ct11), sl11⟩) (c11 : PySem.W.codeIn K cd11 "frac_side" = true) (k11 : PySem.W.keepIn K (.ref f11) = true)
    (a12 : PySem.W.nsIn K mainGlobals "frac_over" = some (some (.ref f12))) (l12 : K.lookup f12 = some ⟨oc12, od12, .func (PySem.W.fnOf "frac_over" "frac_over" (defArgs (topS 5)) (defBody (topS 5)) (defScope (topS 5)) .none kV12 dc12 pm12 an12 cd12 ct12), sl12⟩) (c12 : PySem.W.codeIn K cd12 "frac_over" = true) (k12 : PySem.W.keepIn K (.ref f12) = true)
    (a13 : PySem.W.nsIn K mainGlobals "frac_plus" = some (some (.ref f13))) (l13 : K.lookup f13 = some ⟨oc13, od13, .func (PySem.W.fnOf "frac_plus" "frac_plus" (defArgs (topS 2)) (defBody (topS 2)) (defScope (topS 2)) .none kV13 dc13 pm13 an13 cd13 ct13), sl13⟩) (c13 : PySem.W.codeIn K cd13 "frac_plus" = true) (k13 : PySem.W.keepIn K (.ref f13) = true)
    (a14 : PySem.W.nsIn K mainGlobals "frac_times" = some (some (.ref f14))) (l14 : K.lookup f14 = some ⟨oc14, od14, .func (PySem.W.fnOf "frac_times" "frac_times" (defArgs (topS 4)) (defBody (topS 4)) (defScope (topS 4)) .none kV14 dc14 pm14 an14 cd14 ct14), sl14⟩) (c14 : PySem.W.codeIn K cd14 "frac_times" = true) (k14 : PySem.W.keepIn K (.ref f14) = true)
    (a15 : PySem.W.nsIn K mainGlobals "met_at" = some (some (.ref f15))) (l15 : K.lookup f15 = some ⟨oc15, od15, .func (PySem.W.fnOf "met_at" "met_at" (defArgs (topS 19)) (defBody (topS 19)) (defScope (topS 19)) .none kV15 dc15 pm15 an15 cd15 ct15), sl15⟩) (c15 : PySem.W.codeIn K cd15 "met_at" = true) (k15 : PySem.W.keepIn K (.ref f15) = true)
    (a16 : PySem.W.nsIn K mainGlobals "neighbours" = some (some (.ref f16))) (l16 : K.lookup f16 = some ⟨oc16, od16, .func (PySem.W.fnOf "neighbours" "neighbours" (defArgs (topS 17)) (defBody (topS 17)) (defScope (topS 17)) .none kV16 dc16 pm16 an16 cd16 ct16), sl16⟩) (c16 : PySem.W.codeIn K cd16 "neighbours" = true) (k16 : PySem.W.keepIn K (.ref f16) = true)
    (a17 : PySem.W.nsIn K mainGlobals "put_to" = some (some (.ref f17))) (l17 : K.lookup f17 = some ⟨oc17, od17, .func (PySem.W.fnOf "put_to" "put_to" (defArgs (topS 18)) (defBody (topS 18)) (defScope (topS 18)) .none kV17 dc17 pm17 an17 cd17 ct17), sl17⟩) (c17 : PySem.W.codeIn K cd17 "put_to" = true) (k17 : PySem.W.keepIn K (.ref f17) = true)
    (a18 : PySem.W.nsIn K mainGlobals "noughts_of" = some (some (.ref f18))) (l18 : K.lookup f18 = some ⟨oc18, od18, .func (PySem.W.fnOf "noughts_of" "noughts_of" (defArgs (topS 20)) (defBody (topS 20)) (defScope (topS 20)) .none kV18 dc18 pm18 an18 cd18 ct18), sl18⟩) (c18 : PySem.W.codeIn K cd18 "noughts_of" = true) (k18 : PySem.W.keepIn K (.ref f18) = true)
    (a19 : PySem.W.nsIn K mainGlobals "stays_of" = some (some (.ref f19))) (l19 : K.lookup f19 = some ⟨oc19, od19, .func (PySem.W.fnOf "stays_of" "stays_of" (defArgs (topS 21)) (defBody (topS 21)) (defScope (topS 21)) .none kV19 dc19 pm19 an19 cd19 ct19), sl19⟩) (c19 : PySem.W.codeIn K cd19 "stays_of" = true) (k19 : PySem.W.keepIn K (.ref f19) = true)
    (a20 : PySem.W.nsIn K mainGlobals "is_amid" = some (some (.ref f20))) (l20 : K.lookup f20 = some ⟨oc20, od20, .func (PySem.W.fnOf "is_amid" "is_amid" (defArgs (topS 23)) (defBody (topS 23)) (defScope (topS 23)) .none kV20 dc20 pm20 an20 cd20 ct20), sl20⟩) (c20 : PySem.W.codeIn K cd20 "is_amid" = true) (k20 : PySem.W.keepIn K (.ref f20) = true)
    (a21 : PySem.W.nsIn K mainGlobals "slope_between" = some (some (.ref f21))) (l21 : K.lookup f21 = some ⟨oc21, od21, .func (PySem.W.fnOf "slope_between" "slope_between" (defArgs (topS 12)) (defBody (topS 12)) (defScope (topS 12)) .none kV21 dc21 pm21 an21 cd21 ct21), sl21⟩) (c21 : PySem.W.codeIn K cd21 "slope_between" = true) (k21 : PySem.W.keepIn K (.ref f21) = true)
    (a22 : PySem.W.nsIn K mainGlobals "knots_amid" = some (some (.ref f22))) (l22 : K.lookup f22 = some ⟨oc22, od22, .func (PySem.W.fnOf "knots_amid" "knots_amid" (defArgs (topS 24)) (defBody (topS 24)) (defScope (topS 24)) .none kV22 dc22 pm22 an22 cd22 ct22), sl22⟩) (c22 : PySem.W.codeIn K cd22 "knots_amid" = true) (k22 : PySem.W.keepIn K (.ref f22) = true)
    (a23 : PySem.W.nsIn K mainGlobals "least_knots" = some (some (.ref f23))) (l23 : K.lookup f23 = some ⟨oc23, od23, .func (PySem.W.fnOf "least_knots" "least_knots" (defArgs (topS 14)) (defBody (topS 14)) (defScope (topS 14)) .none kV23 dc23 pm23 an23 cd23 ct23), sl23⟩) (c23 : PySem.W.codeIn K cd23 "least_knots" = true) (k23 : PySem.W.keepIn K (.ref f23) = true)
    (a24 : PySem.W.nsIn K mainGlobals "value_of" = some (some (.ref f24))) (l24 : K.lookup f24 = some ⟨oc24, od24, .func (PySem.W.fnOf "value_of" "value_of" (defArgs (topS 13)) (defBody (topS 13)) (defScope (topS 13)) .none kV24 dc24 pm24 an24 cd24 ct24), sl24⟩) (c24 : PySem.W.codeIn K cd24 "value_of" = true) (k24 : PySem.W.keepIn K (.ref f24) = true)
    (a25 : PySem.W.nsIn K mainGlobals "put_behind" = some (some (.ref f25))) (l25 : K.lookup f25 = some ⟨oc25, od25, .func (PySem.W.fnOf "put_behind" "put_behind" (defArgs (topS 25)) (defBody (topS 25)) (defScope (topS 25)) .none kV25 dc25 pm25 an25 cd25 ct25), sl25⟩) (c25 : PySem.W.codeIn K cd25 "put_behind" = true) (k25 : PySem.W.keepIn K (.ref f25) = true)
    (a26 : PySem.W.nsIn K mainGlobals "turned" = some (some (.ref f26))) (l26 : K.lookup f26 = some ⟨oc26, od26, .func (PySem.W.fnOf "turned" "turned" (defArgs (topS 26)) (defBody (topS 26)) (defScope (topS 26)) .none kV26 dc26 pm26 an26 cd26 ct26), sl26⟩) (c26 : PySem.W.codeIn K cd26 "turned" = true) (k26 : PySem.W.keepIn K (.ref f26) = true)
    (a27 : PySem.W.nsIn K mainGlobals "come_round" = some (some (.ref f27))) (l27 : K.lookup f27 = some ⟨oc27, od27, .func (PySem.W.fnOf "come_round" "come_round" (defArgs (topS 28)) (defBody (topS 28)) (defScope (topS 28)) .none kV27 dc27 pm27 an27 cd27 ct27), sl27⟩) (c27 : PySem.W.codeIn K cd27 "come_round" = true) (k27 : PySem.W.keepIn K (.ref f27) = true)
    (a28 : PySem.W.nsIn K mainGlobals "round_from" = some (some (.ref f28))) (l28 : K.lookup f28 = some ⟨oc28, od28, .func (PySem.W.fnOf "round_from" "round_from" (defArgs (topS 29)) (defBody (topS 29)) (defScope (topS 29)) .none kV28 dc28 pm28 an28 cd28 ct28), sl28⟩) (c28 : PySem.W.codeIn K cd28 "round_from" = true) (k28 : PySem.W.keepIn K (.ref f28) = true)
    (a29 : PySem.W.nsIn K mainGlobals "rounds_of" = some (some (.ref f29))) (l29 : K.lookup f29 = some ⟨oc29, od29, .func (PySem.W.fnOf "rounds_of" "rounds_of" (defArgs (topS 30)) (defBody (topS 30)) (defScope (topS 30)) .none kV29 dc29 pm29 an29 cd29 ct29), sl29⟩) (c29 : PySem.W.codeIn K cd29 "rounds_of" = true) (k29 : PySem.W.keepIn K (.ref f29) = true)
    (a30 : PySem.W.nsIn K mainGlobals "_law_longer_right" = some (some (.ref f30))) (l30 : K.lookup f30 = some ⟨oc30, od30, .func (PySem.W.fnOf "_law_longer_right" "_law_longer_right" (defArgs (topS 53)) (defBody (topS 53)) (defScope (topS 53)) .none kV30 dc30 pm30 an30 cd30 ct30), sl30⟩) (c30 : PySem.W.codeIn K cd30 "_law_longer_right" = true) (k30 : PySem.W.keepIn K (.ref f30) = true)
    (a31 : PySem.W.nsIn K mainGlobals "_law_many" = some (some (.ref f31))) (l31 : K.lookup f31 = some ⟨oc31, od31, .func (PySem.W.fnOf "_law_many" "_law_many" (defArgs (topS 46)) (defBody (topS 46)) (defScope (topS 46)) .none kV31 dc31 pm31 an31 cd31 ct31), sl31⟩) (c31 : PySem.W.codeIn K cd31 "_law_many" = true) (k31 : PySem.W.keepIn K (.ref f31) = true)
    (a32 : PySem.W.nsIn K mainGlobals "_law_at" = some (some (.ref f32))) (l32 : K.lookup f32 = some ⟨oc32, od32, .func (PySem.W.fnOf "_law_at" "_law_at" (defArgs (topS 41)) (defBody (topS 41)) (defScope (topS 41)) .none kV32 dc32 pm32 an32 cd32 ct32), sl32⟩) (c32 : PySem.W.codeIn K cd32 "_law_at" = true) (k32 : PySem.W.keepIn K (.ref f32) = true)
    (a33 : PySem.W.nsIn K mainGlobals "_law_side" = some (some (.ref f33))) (l33 : K.lookup f33 = some ⟨oc33, od33, .func (PySem.W.fnOf "_law_side" "_law_side" (defArgs (topS 40)) (defBody (topS 40)) (defScope (topS 40)) .none kV33 dc33 pm33 an33 cd33 ct33), sl33⟩) (c33 : PySem.W.codeIn K cd33 "_law_side" = true) (k33 : PySem.W.keepIn K (.ref f33) = true)
    (a34 : PySem.W.nsIn K mainGlobals "_law_put_at" = some (some (.ref f34))) (l34 : K.lookup f34 = some ⟨oc34, od34, .func (PySem.W.fnOf "_law_put_at" "_law_put_at" (defArgs (topS 42)) (defBody (topS 42)) (defScope (topS 42)) .none kV34 dc34 pm34 an34 cd34 ct34), sl34⟩) (c34 : PySem.W.codeIn K cd34 "_law_put_at" = true) (k34 : PySem.W.keepIn K (.ref f34) = true)
    (a35 : PySem.W.nsIn K mainGlobals "_law_map" = some (some (.ref f35))) (l35 : K.lookup f35 = some ⟨oc35, od35, .func (PySem.W.fnOf "_law_map" "_law_map" (defArgs (topS 43)) (defBody (topS 43)) (defScope (topS 43)) .none kV35 dc35 pm35 an35 cd35 ct35), sl35⟩) (c35 : PySem.W.codeIn K cd35 "_law_map" = true) (k35 : PySem.W.keepIn K (.ref f35) = true)
    (a36 : PySem.W.nsIn K mainGlobals "_law_mirrored" = some (some (.ref f36))) (l36 : K.lookup f36 = some ⟨oc36, od36, .func (PySem.W.fnOf "_law_mirrored" "_law_mirrored" (defArgs (topS 52)) (defBody (topS 52)) (defScope (topS 52)) .none kV36 dc36 pm36 an36 cd36 ct36), sl36⟩) (c36 : PySem.W.codeIn K cd36 "_law_mirrored" = true) (k36 : PySem.W.keepIn K (.ref f36) = true)
    (a37 : PySem.W.nsIn K mainGlobals "_law_after" = some (some (.ref f37))) (l37 : K.lookup f37 = some ⟨oc37, od37, .func (PySem.W.fnOf "_law_after" "_law_after" (defArgs (topS 47)) (defBody (topS 47)) (defScope (topS 47)) .none kV37 dc37 pm37 an37 cd37 ct37), sl37⟩) (c37 : PySem.W.codeIn K cd37 "_law_after" = true) (k37 : PySem.W.keepIn K (.ref f37) = true)
    (a38 : PySem.W.nsIn K mainGlobals "_law_lies" = some (some (.ref f38))) (l38 : K.lookup f38 = some ⟨oc38, od38, .func (PySem.W.fnOf "_law_lies" "_law_lies" (defArgs (topS 49)) (defBody (topS 49)) (defScope (topS 49)) .none kV38 dc38 pm38 an38 cd38 ct38), sl38⟩) (c38 : PySem.W.codeIn K cd38 "_law_lies" = true) (k38 : PySem.W.keepIn K (.ref f38) = true)
    (a39 : PySem.W.nsIn K mainGlobals "_law_middle" = some (some (.ref f39))) (l39 : K.lookup f39 = some ⟨oc39, od39, .func (PySem.W.fnOf "_law_middle" "_law_middle" (defArgs (topS 48)) (defBody (topS 48)) (defScope (topS 48)) .none kV39 dc39 pm39 an39 cd39 ct39), sl39⟩) (c39 : PySem.W.codeIn K cd39 "_law_middle" = true) (k39 : PySem.W.keepIn K (.ref f39) = true)
    (a40 : PySem.W.nsIn K mainGlobals "_law_round_right" = some (some (.ref f40))) (l40 : K.lookup f40 = some ⟨oc40, od40, .func (PySem.W.fnOf "_law_round_right" "_law_round_right" (defArgs (topS 50)) (defBody (topS 50)) (defScope (topS 50)) .none kV40 dc40 pm40 an40 cd40 ct40), sl40⟩) (c40 : PySem.W.codeIn K cd40 "_law_round_right" = true) (k40 : PySem.W.keepIn K (.ref f40) = true)
    (a41 : PySem.W.nsIn K mainGlobals "_law_seed" = some (some (.ref f41))) (l41 : K.lookup f41 = some ⟨oc41, od41, .func (PySem.W.fnOf "_law_seed" "_law_seed" (defArgs (topS 33)) (defBody (topS 33)) (defScope (topS 33)) .none kV41 dc41 pm41 an41 cd41 ct41), sl41⟩) (c41 : PySem.W.codeIn K cd41 "_law_seed" = true) (k41 : PySem.W.keepIn K (.ref f41) = true)
    (a42 : PySem.W.nsIn K mainGlobals "_law_singles_right" = some (some (.ref f42))) (l42 : K.lookup f42 = some ⟨oc42, od42, .func (PySem.W.fnOf "_law_singles_right" "_law_singles_right" (defArgs (topS 51)) (defBody (topS 51)) (defScope (topS 51)) .none kV42 dc42 pm42 an42 cd42 ct42), sl42⟩) (c42 : PySem.W.codeIn K cd42 "_law_singles_right" = true) (k42 : PySem.W.keepIn K (.ref f42) = true)
    (a43 : PySem.W.nsIn K mainGlobals "law" = some (some (.ref f43))) (l43 : K.lookup f43 = some ⟨oc43, od43, .func (PySem.W.fnOf "law" "law" (defArgs (topS 54)) (defBody (topS 54)) (defScope (topS 54)) .none kV43 dc43 pm43 an43 cd43 ct43), sl43⟩) (c43 : PySem.W.codeIn K cd43 "law" = true) (k43 : PySem.W.keepIn K (.ref f43) = true)
    (z_abs : PySem.W.nsIn K mainGlobals "abs" = some none)
    (z_int : PySem.W.nsIn K mainGlobals "int" = some none)
    (z_len : PySem.W.nsIn K mainGlobals "len" = some none)
    (z_list : PySem.W.nsIn K mainGlobals "list" = some none)
    (z_max : PySem.W.nsIn K mainGlobals "max" = some none)
    (z_range : PySem.W.nsIn K mainGlobals "range" = some none)
    (z_sorted : PySem.W.nsIn K mainGlobals "sorted" = some none)
    (z_tuple : PySem.W.nsIn K mainGlobals "tuple" = some none)
    (z_zip : PySem.W.nsIn K mainGlobals "zip" = some none)
    (y_NOUGHT : PySem.W.nsIn K mainGlobals "NOUGHT" = some (some (.ref ga_NOUGHT)))
    (yl_NOUGHT : K.lookup ga_NOUGHT = some ⟨.type "tuple", gd_NOUGHT, .seq #[.int 0 gt_NOUGHT, .int 1 gu_NOUGHT] gn_NOUGHT, gs_NOUGHT⟩) :
    ∃ fd : FuncData, (∀ (s : Shared) (v : Value), BindsTo s fd ⟨[v], []⟩ [("script", v)]) ∧ ∀ base : Heap, K.In base → base.Ns mainGlobals mg → FnOk l.prog w K mg base CX0 10 fa fd ["script"] (lSp K sp_law) := by
  have T : Top K mg := ⟨⟨⟨f0, _, fun_mk (st := topS 35) l0 c0 k0, PySem.W.mg_of X G a0⟩⟩, ⟨⟨f1, _, fun_mk (st := topS 36) l1 c1 k1, PySem.W.mg_of X G a1⟩⟩, ⟨⟨f2, _, fun_mk (st := topS 38) l2 c2 k2, PySem.W.mg_of X G a2⟩⟩, ⟨⟨f3, _, fun_mk (st := topS 37) l3 c3 k3, PySem.W.mg_of X G a3⟩⟩, ⟨⟨f4, _, fun_mk (st := topS 45) l4 c4 k4, PySem.W.mg_of X G a4⟩⟩, ⟨⟨f5, _, fun_mk (st := topS 34) l5 c5 k5, PySem.W.mg_of X G a5⟩⟩, ⟨⟨f6, _, fun_mk (st := topS 39) l6 c6 k6, PySem.W.mg_of X G a6⟩⟩, ⟨⟨f7, _, fun_mk (st := topS 44) l7 c7 k7, PySem.W.mg_of X G a7⟩⟩, ⟨⟨f8, _, fun_mk (st := topS 32) l8 c8 k8, PySem.W.mg_of X G a8⟩⟩, ⟨⟨f9, _, fun_mk (st := topS 1) l9 c9 k9, PySem.W.mg_of X G a9⟩⟩, ⟨⟨f10, _, fun_mk (st := topS 3) l10 c10 k10, PySem.W.mg_of X G a10⟩⟩, ⟨⟨f11, _, fun_mk (st := topS 6) l11 c11 k11, PySem.W.mg_of X G a11⟩⟩, ⟨⟨f12, _, fun_mk (st := topS 5) l12 c12 k12, PySem.W.mg_of X G a12⟩⟩, ⟨⟨f13, _, fun_mk (st := topS 2) l13 c13 k13, PySem.W.mg_of X G a13⟩⟩, ⟨⟨f14, _, fun_mk (st := topS 4) l14 c14 k14, PySem.W.mg_of X G a14⟩⟩, ⟨⟨f15, _, fun_mk (st := topS 19) l15 c15 k15, PySem.W.mg_of X G a15⟩⟩, ⟨⟨f16, _, fun_mk (st := topS 17) l16 c16 k16, PySem.W.mg_of X G a16⟩⟩, ⟨⟨f17, _, fun_mk (st := topS 18) l17 c17 k17, PySem.W.mg_of X G a17⟩⟩, ⟨⟨f18, _, fun_mk (st := topS 20) l18 c18 k18, PySem.W.mg_of X G a18⟩⟩, ⟨⟨f19, _, fun_mk (st := topS 21) l19 c19 k19, PySem.W.mg_of X G a19⟩⟩, ⟨⟨f20, _, fun_mk (st := topS 23) l20 c20 k20, PySem.W.mg_of X G a20⟩⟩, ⟨⟨f21, _, fun_mk (st := topS 12) l21 c21 k21, PySem.W.mg_of X G a21⟩⟩, ⟨⟨f22, _, fun_mk (st := topS 24) l22 c22 k22, PySem.W.mg_of X G a22⟩⟩, ⟨⟨f23, _, fun_mk (st := topS 14) l23 c23 k23, PySem.W.mg_of X G a23⟩⟩, ⟨⟨f24, _, fun_mk (st := topS 13) l24 c24 k24, PySem.W.mg_of X G a24⟩⟩, ⟨⟨f25, _, fun_mk (st := topS 25) l25 c25 k25, PySem.W.mg_of X G a25⟩⟩, ⟨⟨f26, _, fun_mk (st := topS 26) l26 c26 k26, PySem.W.mg_of X G a26⟩⟩, ⟨⟨f27, _, fun_mk (st := topS 28) l27 c27 k27, PySem.W.mg_of X G a27⟩⟩, ⟨⟨f28, _, fun_mk (st := topS 29) l28 c28 k28, PySem.W.mg_of X G a28⟩⟩, ⟨⟨f29, _, fun_mk (st := topS 30) l29 c29 k29, PySem.W.mg_of X G a29⟩⟩, ⟨⟨f30, _, fun_mk (st := topS 53) l30 c30 k30, PySem.W.mg_of X G a30⟩⟩, ⟨⟨f31, _, fun_mk (st := topS 46) l31 c31 k31, PySem.W.mg_of X G a31⟩⟩, ⟨⟨f32, _, fun_mk (st := topS 41) l32 c32 k32, PySem.W.mg_of X G a32⟩⟩, ⟨⟨f33, _, fun_mk (st := topS 40) l33 c33 k33, PySem.W.mg_of X G a33⟩⟩, ⟨⟨f34, _, fun_mk (st := topS 42) l34 c34 k34, PySem.W.mg_of X G a34⟩⟩, ⟨⟨f35, _, fun_mk (st := topS 43) l35 c35 k35, PySem.W.mg_of X G a35⟩⟩, ⟨⟨f36, _, fun_mk (st := topS 52) l36 c36 k36, PySem.W.mg_of X G a36⟩⟩, ⟨⟨f37, _, fun_mk (st := topS 47) l37 c37 k37, PySem.W.mg_of X G a37⟩⟩, ⟨⟨f38, _, fun_mk (st := topS 49) l38 c38 k38, PySem.W.mg_of X G a38⟩⟩, ⟨⟨f39, _, fun_mk (st := topS 48) l39 c39 k39, PySem.W.mg_of X G a39⟩⟩, ⟨⟨f40, _, fun_mk (st := topS 50) l40 c40 k40, PySem.W.mg_of X G a40⟩⟩, ⟨⟨f41, _, fun_mk (st := topS 33) l41 c41 k41, PySem.W.mg_of X G a41⟩⟩, ⟨⟨f42, _, fun_mk (st := topS 51) l42 c42 k42, PySem.W.mg_of X G a42⟩⟩, ⟨⟨f43, _, fun_mk (st := topS 54) l43 c43 k43, PySem.W.mg_of X G a43⟩⟩, PySem.W.mg_none_of X G z_abs, PySem.W.mg_none_of X G z_int, PySem.W.mg_none_of X G z_len, PySem.W.mg_none_of X G z_list, PySem.W.mg_none_of X G z_max, PySem.W.mg_none_of X G z_range, PySem.W.mg_none_of X G z_sorted, PySem.W.mg_none_of X G z_tuple, PySem.W.mg_none_of X G z_zip, ⟨ga_NOUGHT, PySem.W.mg_of X G y_NOUGHT, _, _, _, yl_NOUGHT, rfl, rfl, (show 2 ≤ sizeLine by decide), .cons ⟨_, rfl⟩ (.cons ⟨_, rfl⟩ .nil)⟩⟩
  have e := hfa.symm.trans (PySem.W.mg_of X G a43)
  cases e
  have F := fun_mk (st := topS 54) l43 c43 k43
  refine ⟨PySem.W.fnOf "law" "law" (defArgs (topS 54)) (defBody (topS 54)) (defScope (topS 54)) .none kV43 dc43 pm43 an43 cd43 ct43, fun s v => .of_eq rfl, fun base _ _ => ?_⟩
  have G_law_fraction : Def l.prog w K mg base "_law_fraction" 1 ["upper", "below"] sp_law_fraction := ok_law_fraction T
  have G_law_plus : Def l.prog w K mg base "_law_plus" 2 ["one", "other"] sp_law_plus := ok_law_plus T G_law_fraction
  have G_law_less : Def l.prog w K mg base "_law_less" 3 ["one", "other"] sp_law_less := ok_law_less T G_law_plus
  have G_law_times : Def l.prog w K mg base "_law_times" 2 ["one", "other"] sp_law_times := ok_law_times T G_law_fraction
  have G_law_bends : Def l.prog w K mg base "_law_bends" 4 ["knots"] sp_law_bends := ok_law_bends T G_law_less G_law_times
  have G_law_draw : Def l.prog w K mg base "_law_draw" 1 ["seed", "most"] sp_law_draw := ok_law_draw T
  have G_law_over : Def l.prog w K mg base "_law_over" 2 ["one", "other"] sp_law_over := ok_law_over T G_law_fraction
  have G_law_filled : Def l.prog w K mg base "_law_filled" 3 ["seed", "knots"] sp_law_filled := ok_law_filled T G_law_draw G_law_over G_law_plus
  have G_law_folded : Def l.prog w K mg base "_law_folded" 1 ["script"] sp_law_folded := ok_law_folded T
  have G_frac : Def l.prog w K mg base "frac" 1 ["above", "below"] sp_frac := ok_frac T
  have G_frac_less : Def l.prog w K mg base "frac_less" 2 ["one", "other"] sp_frac_less := ok_frac_less T G_frac
  have G_frac_side : Def l.prog w K mg base "frac_side" 1 ["one", "other"] sp_frac_side := ok_frac_side T
  have G_frac_over : Def l.prog w K mg base "frac_over" 2 ["one", "other"] sp_frac_over := ok_frac_over T G_frac
  have G_frac_plus : Def l.prog w K mg base "frac_plus" 2 ["one", "other"] sp_frac_plus := ok_frac_plus T G_frac
  have G_frac_times : Def l.prog w K mg base "frac_times" 2 ["one", "other"] sp_frac_times := ok_frac_times T G_frac
  have G_met_at : Def l.prog w K mg base "met_at" 3 ["begin", "end", "level"] sp_met_at := ok_met_at T G_frac_less G_frac_over G_frac_plus G_frac_times
  have G_neighbours : Def l.prog w K mg base "neighbours" 1 ["knots"] sp_neighbours := ok_neighbours T
  have G_put_to : Def l.prog w K mg base "put_to" 2 ["pairs", "pair"] sp_put_to := ok_put_to T G_frac_side
  have G_noughts_of : Def l.prog w K mg base "noughts_of" 4 ["rows"] sp_noughts_of := ok_noughts_of T G_frac_side G_met_at G_neighbours G_put_to
  have G_stays_of : Def l.prog w K mg base "stays_of" 5 ["knots"] sp_stays_of := ok_stays_of T G_frac_less G_noughts_of
  have G_is_amid : Def l.prog w K mg base "is_amid" 2 ["point", "one", "other"] sp_is_amid := ok_is_amid T G_frac_side
  have G_slope_between : Def l.prog w K mg base "slope_between" 3 ["one", "other"] sp_slope_between := ok_slope_between T G_frac_less G_frac_over
  have G_knots_amid : Def l.prog w K mg base "knots_amid" 4 ["ahead", "behind", "other"] sp_knots_amid := ok_knots_amid T G_frac_less G_frac_over G_frac_plus G_frac_side G_is_amid G_slope_between
  have G_least_knots : Def l.prog w K mg base "least_knots" 4 ["knots"] sp_least_knots := ok_least_knots T G_slope_between
  have G_value_of : Def l.prog w K mg base "value_of" 4 ["knots", "point"] sp_value_of := ok_value_of T G_frac_less G_frac_plus G_frac_side G_frac_times G_slope_between
  have G_put_behind : Def l.prog w K mg base "put_behind" 5 ["one", "other"] sp_put_behind := ok_put_behind T G_knots_amid G_least_knots G_value_of
  have G_turned : Def l.prog w K mg base "turned" 6 ["knots", "many"] sp_turned := ok_turned T G_put_behind
  have G_come_round : Def l.prog w K mg base "come_round" 7 ["knots", "many"] sp_come_round := ok_come_round T G_stays_of G_turned
  have G_round_from : Def l.prog w K mg base "round_from" 5 ["knots", "point", "many"] sp_round_from := ok_round_from T G_value_of
  have G_rounds_of : Def l.prog w K mg base "rounds_of" 8 ["knots", "many"] sp_rounds_of := ok_rounds_of T G_come_round G_frac_side G_round_from
  have G_law_longer_right : Def l.prog w K mg base "_law_longer_right" 9 ["longer", "told"] sp_law_longer_right := ok_law_longer_right T G_come_round G_least_knots G_rounds_of G_stays_of G_turned
  have G_law_many : Def l.prog w K mg base "_law_many" 2 ["seed", "pieces"] sp_law_many := ok_law_many T G_law_draw
  have G_law_at : Def l.prog w K mg base "_law_at" 2 ["seed", "way"] sp_law_at := ok_law_at T G_law_draw G_law_fraction
  have G_law_side : Def l.prog w K mg base "_law_side" 1 ["one", "other"] sp_law_side := ok_law_side T
  have G_law_put_at : Def l.prog w K mg base "_law_put_at" 2 ["ats", "one"] sp_law_put_at := ok_law_put_at T G_law_side
  have G_law_map : Def l.prog w K mg base "_law_map" 4 ["seed", "most"] sp_law_map := ok_law_map T G_law_at G_law_draw G_law_less G_law_plus G_law_put_at G_law_side
  have G_law_mirrored : Def l.prog w K mg base "_law_mirrored" 2 ["rows"] sp_law_mirrored := ok_law_mirrored T G_law_side
  have G_law_after : Def l.prog w K mg base "_law_after" 5 ["knots", "point", "many"] sp_law_after := ok_law_after T G_value_of
  have G_law_lies : Def l.prog w K mg base "_law_lies" 2 ["pair", "pairs"] sp_law_lies := ok_law_lies T G_law_side
  have G_law_middle : Def l.prog w K mg base "_law_middle" 3 ["pair"] sp_law_middle := ok_law_middle T G_law_over G_law_plus
  have G_law_round_right : Def l.prog w K mg base "_law_round_right" 6 ["knots", "told", "many"] sp_law_round_right := ok_law_round_right T G_law_after G_law_lies G_law_middle G_value_of
  have G_law_seed : Def l.prog w K mg base "_law_seed" 1 ["cell"] sp_law_seed := ok_law_seed T
  have G_law_singles_right : Def l.prog w K mg base "_law_singles_right" 9 ["knots", "told", "many"] sp_law_singles_right := ok_law_singles_right T G_law_lies G_come_round G_rounds_of G_value_of
  exact ok_law T G_law_bends G_law_draw G_law_filled G_law_folded G_law_longer_right G_law_many G_law_map G_law_mirrored G_law_round_right G_law_seed G_law_singles_right G_come_round G_rounds_of G_turned F
end DL
open PySem PySem.W PyProof.Rows
set_option maxHeartbeats 0 in
theorem PySem.Challenge.cw_bentstretch_k18_whole_rounds_holds : PySem.Challenge.rw_bentstretch_k18_whole_rounds.Holds := by
  w_on; o_law; k_head; (case hw => w_witness2)
  k_fill
  refine L2.walk_ofB (l := PySem.Challenge.rw_bentstretch_k18_whole_rounds) (n := 63) (k := 10) (x := "script") (CX := fun _ => L2.CX0) (sp := fun w => DL.lSp _ DL.sp_law) rfl (by decide) rfl ⟨rfl, by decide, by decide⟩ (fun w h Y => PySem.W.kIn_of Y) ?F (fun w H a ns hl hb hO hS => DL.law_start hl hb hO hS (DL.law_sp ns hl hb)) (fun _ _ _ _ _ h => h)
  case F =>
    intro w mg fa h KX G hmg
    refine' DL.all_mk KX G hmg ?a0 ?l0 ?c0 ?k0 ?a1 ?l1 ?c1 ?k1 ?a2 ?l2 ?c2 ?k2 ?a3 ?l3 ?c3 ?k3 ?a4 ?l4 ?c4 ?k4 ?a5 ?l5 ?c5 ?k5 ?a6 ?l6 ?c6 ?k6 ?a7 ?l7 ?c7 ?k7 ?a8 ?l8 ?c8 ?k8 ?a9 ?l9 ?c9 ?k9 ?a10 ?l10 ?c10 ?k10 ?a11 ?l11 ?c11 ?k11 ?a12 ?l12 ?c12 ?k12 ?a13 ?l13 ?c13 ?k13 ?a14 ?l14 ?c14 ?k14 ?a15 ?l15 ?c15 ?k15 ?a16 ?l16 ?c16 ?k16 ?a17 ?l17 ?c17 ?k17 ?a18 ?l18 ?c18 ?k18 ?a19 ?l19 ?c19 ?k19 ?a20 ?l20 ?c20 ?k20 ?a21 ?l21 ?c21 ?k21 ?a22 ?l22 ?c22 ?k22 ?a23 ?l23 ?c23 ?k23 ?a24 ?l24 ?c24 ?k24 ?a25 ?l25 ?c25 ?k25 ?a26 ?l26 ?c26 ?k26 ?a27 ?l27 ?c27 ?k27 ?a28 ?l28 ?c28 ?k28 ?a29 ?l29 ?c29 ?k29 ?a30 ?l30 ?c30 ?k30 ?a31 ?l31 ?c31 ?k31 ?a32 ?l32 ?c32 ?k32 ?a33 ?l33 ?c33 ?k33 ?a34 ?l34 ?c34 ?k34 ?a35 ?l35 ?c35 ?k35 ?a36 ?l36 ?c36 ?k36 ?a37 ?l37 ?c37 ?k37 ?a38 ?l38 ?c38 ?k38 ?a39 ?l39 ?c39 ?k39 ?a40 ?l40 ?c40 ?k40 ?a41 ?l41 ?c41 ?k41 ?a42 ?l42 ?c42 ?k42 ?a43 ?l43 ?c43 ?k43 ?z_abs ?z_int ?z_len ?z_list ?z_max ?z_range ?z_sorted ?z_tuple ?z_zip ?y_NOUGHT ?yl_NOUGHT
    (case a0 => k_is)
    (case l0 => k_is)
    (case c0 => k_is)
    (case k0 => k_is)
    (case a1 => k_is)
    (case l1 => k_is)
    (case c1 => k_is)
    (case k1 => k_is)
    (case a2 => k_is)
    (case l2 => k_is)
    (case c2 => k_is)
    (case k2 => k_is)
    (case a3 => k_is)
    (case l3 => k_is)
    (case c3 => k_is)
    (case k3 => k_is)
    (case a4 => k_is)
    (case l4 => k_is)
    (case c4 => k_is)
    (case k4 => k_is)
    (case a5 => k_is)
    (case l5 => k_is)
    (case c5 => k_is)
    (case k5 => k_is)
    (case a6 => k_is)
    (case l6 => k_is)
    (case c6 => k_is)
    (case k6 => k_is)
    (case a7 => k_is)
    (case l7 => k_is)
    (case c7 => k_is)
    (case k7 => k_is)
    (case a8 => k_is)
    (case l8 => k_is)
    (case c8 => k_is)
    (case k8 => k_is)
    (case a9 => k_is)
    (case l9 => k_is)
    (case c9 => k_is)
    (case k9 => k_is)
    (case a10 => k_is)
    (case l10 => k_is)
    (case c10 => k_is)
    (case k10 => k_is)
    (case a11 => k_is)
    (case l11 => k_is)
    (case c11 => k_is)
    (case k11 => k_is)
    (case a12 => k_is)
    (case l12 => k_is)
    (case c12 => k_is)
    (case k12 => k_is)
    (case a13 => k_is)
    (case l13 => k_is)
    (case c13 => k_is)
    (case k13 => k_is)
    (case a14 => k_is)
    (case l14 => k_is)
    (case c14 => k_is)
    (case k14 => k_is)
    (case a15 => k_is)
    (case l15 => k_is)
    (case c15 => k_is)
    (case k15 => k_is)
    (case a16 => k_is)
    (case l16 => k_is)
    (case c16 => k_is)
    (case k16 => k_is)
    (case a17 => k_is)
    (case l17 => k_is)
    (case c17 => k_is)
    (case k17 => k_is)
    (case a18 => k_is)
    (case l18 => k_is)
    (case c18 => k_is)
    (case k18 => k_is)
    (case a19 => k_is)
    (case l19 => k_is)
    (case c19 => k_is)
    (case k19 => k_is)
    (case a20 => k_is)
    (case l20 => k_is)
    (case c20 => k_is)
    (case k20 => k_is)
    (case a21 => k_is)
    (case l21 => k_is)
    (case c21 => k_is)
    (case k21 => k_is)
    (case a22 => k_is)
    (case l22 => k_is)
    (case c22 => k_is)
    (case k22 => k_is)
    (case a23 => k_is)
    (case l23 => k_is)
    (case c23 => k_is)
    (case k23 => k_is)
    (case a24 => k_is)
    (case l24 => k_is)
    (case c24 => k_is)
    (case k24 => k_is)
    (case a25 => k_is)
    (case l25 => k_is)
    (case c25 => k_is)
    (case k25 => k_is)
    (case a26 => k_is)
    (case l26 => k_is)
    (case c26 => k_is)
    (case k26 => k_is)
    (case a27 => k_is)
    (case l27 => k_is)
    (case c27 => k_is)
    (case k27 => k_is)
    (case a28 => k_is)
    (case l28 => k_is)
    (case c28 => k_is)
    (case k28 => k_is)
    (case a29 => k_is)
    (case l29 => k_is)
    (case c29 => k_is)
    (case k29 => k_is)
    (case a30 => k_is)
    (case l30 => k_is)
    (case c30 => k_is)
    (case k30 => k_is)
    (case a31 => k_is)
    (case l31 => k_is)
    (case c31 => k_is)
    (case k31 => k_is)
    (case a32 => k_is)
    (case l32 => k_is)
    (case c32 => k_is)
    (case k32 => k_is)
    (case a33 => k_is)
    (case l33 => k_is)
    (case c33 => k_is)
    (case k33 => k_is)
    (case a34 => k_is)
    (case l34 => k_is)
    (case c34 => k_is)
    (case k34 => k_is)
    (case a35 => k_is)
    (case l35 => k_is)
    (case c35 => k_is)
    (case k35 => k_is)
    (case a36 => k_is)
    (case l36 => k_is)
    (case c36 => k_is)
    (case k36 => k_is)
    (case a37 => k_is)
    (case l37 => k_is)
    (case c37 => k_is)
    (case k37 => k_is)
    (case a38 => k_is)
    (case l38 => k_is)
    (case c38 => k_is)
    (case k38 => k_is)
    (case a39 => k_is)
    (case l39 => k_is)
    (case c39 => k_is)
    (case k39 => k_is)
    (case a40 => k_is)
    (case l40 => k_is)
    (case c40 => k_is)
    (case k40 => k_is)
    (case a41 => k_is)
    (case l41 => k_is)
    (case c41 => k_is)
    (case k41 => k_is)
    (case a42 => k_is)
    (case l42 => k_is)
    (case c42 => k_is)
    (case k42 => k_is)
    (case a43 => k_is)
    (case l43 => k_is)
    (case c43 => k_is)
    (case k43 => k_is)
    (case z_abs => k_is)
    (case z_int => k_is)
    (case z_len => k_is)
    (case z_list => k_is)
    (case z_max => k_is)
    (case z_range => k_is)
    (case z_sorted => k_is)
    (case z_tuple => k_is)
    (case z_zip => k_is)
    (case y_NOUGHT => k_is)
    (case yl_NOUGHT => k_is)
