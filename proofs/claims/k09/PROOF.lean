import PyProof.Rows.All
import Wide.All
import OpenK.AllK
import Wide.FinOn
import HandS.ForMost
import HandS.ForExc
import HandS.Deep
import HandS.TupAny
import HandS.Wide
import HandS.TupLe
import HandS.Walk
import HandS.Zip
import HandS.IsInst
import HandS.RaiseMore
import HandS.CallSlots
import HandS.ReCall
import HandS.Replace
import HandS.Style
import HandS.MapJoin
import KE.GoesMore
import KE.GoesEnum
import HandS.SortInts
import HandS.FStr
import HandS.Property
import KE.KAssignIn
import HandS.Small
import HandS.Defaults
import HandS.TupMul
import PyProof.EqKinds
import PyProof.FactsAll.dict_1
import PyProof.FactsAll.subtypes_3
import PyProof.FactsAll.subtypes_4
import HandS.DictTup
import HandS.Iter
import KE.KDictPairs
import KE.SortData
import KE.DataCmp
import HandS.TryOnly
import PyProof.FitsInt
import PyProof.StrLawsRepr
import PySem.Challenge.RW_levelkeys_k09_whole_rules_of_polynomials
set_option Elab.async false
set_option linter.all false
set_option maxRecDepth 100000
set_option maxHeartbeats 4000000
namespace DL
open PySem PySem.Spec PyProof.Rows L2

/-- data: a frozen value, or a mutable object by its number in the store -/
inductive D where
  | non | bl (b : Bool) | int (i : Int) | str (x : Str)
  | tup (l : List D) | lst (l : List D) | emp | ob (n : Nat) | ctu (l : List D) | ptu (l : List D)
/-- a mutable object -/
inductive O where
  | lst (l : List D) | dk (l : List (Key × D)) | dt (l : List (List Key × D)) | ins (c : Str) (fs : List (Str × D))
abbrev Store := List (Option O)
structure Exc where
  cls : Str
  fs : List (Str × D)
inductive R (α : Type) where
  | ok (a : α) (S : Store) | err (x : Exc) (S : Store) | bad
abbrev M (α : Type) := Store → R α
def ret {α : Type} (a : α) : M α := fun S => .ok a S
def bad {α : Type} : M α := fun _ => .bad
def bnd {α β : Type} (m : M α) (f : α → M β) : M β := fun S => match m S with
  | .ok a S' => f a S'
  | .err x S' => .err x S'
  | .bad => .bad
instance : Monad M where
  pure := ret
  bind := bnd
theorem bind_def {α β : Type} (m : M α) (f : α → M β) : (m >>= f) = bnd m f := rfl
theorem pure_def {α : Type} (a : α) : (pure a : M α) = ret a := rfl
@[simp] theorem ret_run {α : Type} (a : α) (S : Store) : ret a S = .ok a S := rfl
@[simp] theorem bad_run {α : Type} (S : Store) : (bad : M α) S = .bad := rfl
theorem bnd_ok {α β : Type} {m : M α} {f : α → M β} {S S' : Store} {a : α} (h : m S = .ok a S') : bnd m f S = f a S' := by unfold bnd; rw [h]
theorem bnd_err {α β : Type} {m : M α} {f : α → M β} {S S' : Store} {x : Exc} (h : m S = .err x S') : bnd m f S = .err x S' := by unfold bnd; rw [h]
theorem bnd_bad {α β : Type} {m : M α} {f : α → M β} {S : Store} (h : m S = .bad) : bnd m f S = .bad := by unfold bnd; rw [h]

abbrev Frame := List (Option D)
inductive Fl where
  | nx | rt (d : D) | bk | ct

/-! ### what a value stands for -/
/-- a frozen list, or one of the module -/
def Ls (K : PySem.W.Frag) (H : Hp) (a : Addr) (xs : List V) : Prop := (∃ o, H a = some (.frz o (.lst xs))) ∨ SqL K (fun _ => none) a xs
theorem Ls.sq {K : PySem.W.Frag} {H : Hp} {a : Addr} {xs : List V} (h : Ls K H a xs) : SqL K H a xs := by
  rcases h with ⟨o, h⟩ | h
  · exact .inl (.inr ⟨o, h⟩)
  · rcases h with h | h
    · rcases h with h | ⟨o, h⟩ <;> cases h
    · exact .inr h
section
variable (K : PySem.W.Frag) (ι : List Addr) (H : Hp)
mutual
def Rp : D → V → Prop
  | .non, v => v = .non
  | .bl b, v => v = .bl b
  | .int i, v => v = .int i
  | .str x, v => v = .str x
  | .tup l, v => ∃ a vs, v = .ref a ∧ H a = some (.tup vs) ∧ Rps l vs
  | .ctu l, v => ∃ a vs, v = .ref a ∧ SqT K H a vs ∧ Rps l vs
  | .ptu l, v => ∃ a o vs, v = .ref a ∧ H a = some (.frz o (.tup vs)) ∧ o.dict = none ∧ Rps l vs
  | .lst l, v => ∃ a vs, v = .ref a ∧ Ls K H a vs ∧ Rps l vs
  | .emp, v => ∃ a o, v = .ref a ∧ H a = some (.frz o (.dK []))
  | .ob n, v => ∃ a, v = .ref a ∧ ι[n]? = some a
def Rps : List D → List V → Prop
  | [], vs => vs = []
  | d :: ds, vs => ∃ v r, vs = v :: r ∧ Rp d v ∧ Rps ds r
end
def Rkv {κ : Type} : List (κ × D) → List (κ × V) → Prop
  | [], vs => vs = []
  | (k, d) :: ds, vs => ∃ v r, vs = (k, v) :: r ∧ Rp K ι H d v ∧ Rkv ds r
/-- an object at its address -/
def OR (mg : Str → Option Value) : O → Addr → Prop
  | .lst l, a => ∃ vs, H a = some (.lst vs) ∧ Rps K ι H l vs
  | .dk l, a => ∃ vs, H a = some (.dK vs) ∧ Rkv K ι H l vs
  | .dt l, a => ∃ vs, H a = some (.dT vs) ∧ Rkv K ι H l vs
  | .ins c fs, a => ∃ C dx vs, mg c = some (.ref C) ∧ H a = some (.ins C dx vs) ∧ Rkv K ι H fs vs
end
/-- the store is held -/
structure SR (K : PySem.W.Frag) (mg : Str → Option Value) (ι : List Addr) (S : Store) (H : Hp) : Prop where
  nd : ι.Nodup
  len : S.length = ι.length
  occ : ∀ a ∈ ι, H a ≠ none ∧ ∀ xs, H a ≠ some (.tup xs)
  obj : ∀ (n : Nat) (o : O), S[n]? = some (some o) → ∃ a, ι[n]? = some a ∧ OR K ι H mg o a
def FR (K : PySem.W.Frag) (ι : List Addr) (fr : Frame) (σ : L2.St) (H : Hp) : Prop :=
  fr.length = σ.length ∧ ∀ (i : Nat) (d : D), fr[i]? = some (some d) → ∃ v, σ[i]? = some (some v) ∧ Rp K ι H d v
/-- the way from one state to a later one -/
structure Mn (ι : List Addr) (H : Hp) (ι' : List Addr) (H' : Hp) : Prop where
  pre : ∃ t, ι' = ι ++ t ∧ ∀ a ∈ t, H a = none
  live : ∀ a, H a ≠ none → H' a ≠ none
  tups : ∀ a xs, H a = some (.tup xs) → H' a = some (.tup xs)
  frzs : ∀ a o u, H a = some (.frz o u) → H' a = some (.frz o u)
  kept : ∀ a o, H a = some o → a ∉ ι → H' a = some o
/-- .. what data leans on -/
structure Mw (ι : List Addr) (H : Hp) (ι' : List Addr) (H' : Hp) : Prop where
  pre : ∃ t, ι' = ι ++ t
  tups : ∀ a xs, H a = some (.tup xs) → H' a = some (.tup xs)
  frzs : ∀ a o u, H a = some (.frz o u) → H' a = some (.frz o u)
section
variable {K : PySem.W.Frag} {mg : Str → Option Value} {ι ι' ι2 : List Addr} {H H' H2 : Hp}
theorem Mn.refl : Mn ι H ι H := ⟨⟨[], by simp, by simp⟩, fun _ h => h, fun _ _ h => h, fun _ _ _ h => h, fun _ _ h _ => h⟩
theorem Mn.trans (a : Mn ι H ι' H') (b : Mn ι' H' ι2 H2) : Mn ι H ι2 H2 := by
  obtain ⟨t, e, ht⟩ := a.pre
  obtain ⟨u, e', hu⟩ := b.pre
  subst e
  refine ⟨⟨t ++ u, by rw [e', List.append_assoc], fun x hx => ?_⟩, fun x h => b.live x (a.live x h), fun x xs h => b.tups x xs (a.tups x xs h), fun x o u h => b.frzs x o u (a.frzs x o u h), fun x o h hx => ?_⟩
  · rcases List.mem_append.mp hx with h | h
    · exact ht x h
    · have q := hu x h
      cases e1 : H x with
      | none => rfl
      | some o => exact absurd q (a.live x (by rw [e1]; simp))
  · exact b.kept x o (a.kept x o h hx) fun z => by
      rcases List.mem_append.mp z with z | z
      · exact hx z
      · rw [ht x z] at h; cases h
theorem Mw.ix (m : Mw ι H ι' H') {n : Nat} {a : Addr} (h : ι[n]? = some a) : ι'[n]? = some a := by
  obtain ⟨t, rfl⟩ := m.pre
  obtain ⟨hn, _⟩ := List.getElem?_eq_some_iff.mp h
  rw [List.getElem?_append_left hn, h]
theorem Mw.sqT (m : Mw ι H ι' H') {a : Addr} {xs : List V} (h : SqT K H a xs) : SqT K H' a xs := by
  rcases h with (h | ⟨o, h⟩) | h
  · exact .inl (.inl (m.tups _ _ h))
  · exact .inl (.inr ⟨o, m.frzs _ _ _ h⟩)
  · exact .inr h
theorem Mw.ls (m : Mw ι H ι' H') {a : Addr} {xs : List V} (h : Ls K H a xs) : Ls K H' a xs := by
  rcases h with ⟨o, h⟩ | h
  · exact .inl ⟨o, m.frzs _ _ _ h⟩
  · exact .inr h
mutual
theorem Mw.rp (m : Mw ι H ι' H') : ∀ {d : D} {v : V}, Rp K ι H d v → Rp K ι' H' d v
  | .non, _, h => h
  | .bl _, _, h => h
  | .int _, _, h => h
  | .str _, _, h => h
  | .tup l, v, h => by
    obtain ⟨a, vs, e, h1, h2⟩ := h
    exact ⟨a, vs, e, m.tups _ _ h1, m.rps h2⟩
  | .ctu l, v, h => by
    obtain ⟨a, vs, e, h1, h2⟩ := h
    exact ⟨a, vs, e, m.sqT h1, m.rps h2⟩
  | .ptu l, v, h => by
    obtain ⟨a, o, vs, e, h1, h0, h2⟩ := h
    exact ⟨a, o, vs, e, m.frzs _ _ _ h1, h0, m.rps h2⟩
  | .lst l, v, h => by
    obtain ⟨a, vs, e, h1, h2⟩ := h
    exact ⟨a, vs, e, m.ls h1, m.rps h2⟩
  | .emp, v, h => by
    obtain ⟨a, o, e, h1⟩ := h
    exact ⟨a, o, e, m.frzs _ _ _ h1⟩
  | .ob n, v, h => by
    obtain ⟨a, e, h1⟩ := h
    exact ⟨a, e, m.ix h1⟩
theorem Mw.rps (m : Mw ι H ι' H') : ∀ {ds : List D} {vs : List V}, Rps K ι H ds vs → Rps K ι' H' ds vs
  | [], _, h => h
  | d :: ds, vs, h => by
    obtain ⟨v, r, e, h1, h2⟩ := h
    exact ⟨v, r, e, m.rp h1, m.rps h2⟩
end
theorem Mw.fr (m : Mw ι H ι' H') {fr : Frame} {σ : L2.St} (h : FR K ι fr σ H) : FR K ι' fr σ H' :=
  ⟨h.1, fun i d e => let ⟨v, e1, r⟩ := h.2 i d e; ⟨v, e1, m.rp r⟩⟩
theorem Mn.w (m : Mn ι H ι' H') : Mw ι H ι' H' := ⟨let ⟨t, e, _⟩ := m.pre; ⟨t, e⟩, m.tups, m.frzs⟩
theorem Mn.ix (m : Mn ι H ι' H') {n : Nat} {a : Addr} (h : ι[n]? = some a) : ι'[n]? = some a := m.w.ix h
theorem Mn.sqT (m : Mn ι H ι' H') {a : Addr} {xs : List V} (h : SqT K H a xs) : SqT K H' a xs := m.w.sqT h
theorem Mn.ls (m : Mn ι H ι' H') {a : Addr} {xs : List V} (h : Ls K H a xs) : Ls K H' a xs := m.w.ls h
theorem Mn.rp (m : Mn ι H ι' H') {d : D} {v : V} (h : Rp K ι H d v) : Rp K ι' H' d v := m.w.rp h
theorem Mn.rps (m : Mn ι H ι' H') {d : List D} {v : List V} (h : Rps K ι H d v) : Rps K ι' H' d v := m.w.rps h
theorem Mn.fr (m : Mn ι H ι' H') {fr : Frame} {σ : L2.St} (h : FR K ι fr σ H) : FR K ι' fr σ H' := m.w.fr h
theorem Rps.length : ∀ {ds : List D} {vs : List V}, Rps K ι H ds vs → ds.length = vs.length
  | [], _, h => by subst h; rfl
  | d :: ds, _, h => by
    obtain ⟨v, r, rfl, _, h2⟩ := h
    simp [Rps.length h2]
theorem Rps.get : ∀ {ds : List D} {vs : List V} {i : Nat} {d : D}, Rps K ι H ds vs → ds[i]? = some d → ∃ v, vs[i]? = some v ∧ Rp K ι H d v
  | [], _, _, _, _, e => by simp at e
  | d :: ds, _, 0, _, h, e => by
    obtain ⟨v, r, rfl, h1, _⟩ := h
    simp at e
    subst e
    exact ⟨v, rfl, h1⟩
  | d :: ds, _, i + 1, x, h, e => by
    obtain ⟨v, r, rfl, _, h2⟩ := h
    obtain ⟨w, e1, r1⟩ := Rps.get (i := i) h2 (by simpa using e)
    exact ⟨w, by simpa using e1, r1⟩
theorem Rps.app : ∀ {ds es : List D} {vs ws : List V}, Rps K ι H ds vs → Rps K ι H es ws → Rps K ι H (ds ++ es) (vs ++ ws)
  | [], _, _, _, h, h' => by subst h; exact h'
  | d :: ds, _, _, _, h, h' => by
    obtain ⟨v, r, rfl, h1, h2⟩ := h
    exact ⟨v, _, rfl, h1, Rps.app h2 h'⟩
theorem Rps.take : ∀ {ds : List D} {vs : List V} (n : Nat), Rps K ι H ds vs → Rps K ι H (ds.take n) (vs.take n)
  | _, _, 0, _ => by simp [Rps]
  | [], _, n + 1, h => by subst h; simp [Rps]
  | d :: ds, _, n + 1, h => by
    obtain ⟨v, r, rfl, h1, h2⟩ := h
    exact ⟨v, _, rfl, h1, Rps.take n h2⟩
theorem Rps.drop : ∀ {ds : List D} {vs : List V} (n : Nat), Rps K ι H ds vs → Rps K ι H (ds.drop n) (vs.drop n)
  | _, _, 0, h => by simpa using h
  | [], _, n + 1, h => by subst h; simp [Rps]
  | d :: ds, _, n + 1, h => by
    obtain ⟨v, r, rfl, h1, h2⟩ := h
    simpa using Rps.drop n h2
theorem Rps.set {d : D} {v : V} (q : Rp K ι H d v) : ∀ {ds : List D} {vs : List V} (n : Nat), Rps K ι H ds vs → Rps K ι H (ds.set n d) (vs.set n v)
  | [], _, _, h => by subst h; simp [Rps]
  | _ :: _, _, 0, h => by
    obtain ⟨w, r, rfl, h1, h2⟩ := h
    exact ⟨v, r, rfl, q, h2⟩
  | e :: ds, _, n + 1, h => by
    obtain ⟨w, r, rfl, h1, h2⟩ := h
    exact ⟨w, _, rfl, h1, Rps.set q n h2⟩
theorem Rps.of_ints : ∀ (ns : List Int), Rps K ι H (ns.map .int) (ns.map V.int)
  | [] => rfl
  | n :: r => ⟨_, _, rfl, rfl, Rps.of_ints r⟩
/-- an address of the store -/
theorem SR.at {S : Store} (h : SR K mg ι S H) {n : Nat} {o : O} (e : S[n]? = some (some o)) : ∃ a, ι[n]? = some a ∧ OR K ι H mg o a := h.obj n o e
theorem SR.ne {S : Store} (h : SR K mg ι S H) {n m : Nat} {a b : Addr} (e : ι[n]? = some a) (f : ι[m]? = some b) (hn : n ≠ m) : a ≠ b := by
  intro z; subst z
  obtain ⟨h1, e1⟩ := List.getElem?_eq_some_iff.mp e
  obtain ⟨h2, e2⟩ := List.getElem?_eq_some_iff.mp f
  exact hn ((List.getElem_inj h.nd).mp (e1.trans e2.symm))
end
end DL
namespace DL
open PySem PySem.Spec PyProof.Rows L2

/-! ### more of the state -/
section
variable {K : PySem.W.Frag} {mg : Str → Option Value} {ι ι' ι2 : List Addr} {H H' H2 : Hp}
theorem Mw.rkv (m : Mw ι H ι' H') {κ : Type} : ∀ {ds : List (κ × D)} {vs : List (κ × V)}, Rkv K ι H ds vs → Rkv K ι' H' ds vs
  | [], _, h => h
  | (k, d) :: ds, vs, h => by
    obtain ⟨v, r, e, h1, h2⟩ := h
    exact ⟨v, r, e, m.rp h1, m.rkv h2⟩
/-- an object whose place stands -/
theorem Mw.or (m : Mw ι H ι' H') {o : O} {a : Addr} (e : H' a = H a) (h : OR K ι H mg o a) : OR K ι' H' mg o a := by
  cases o with
  | lst l => obtain ⟨vs, h1, h2⟩ := h; exact ⟨vs, e.trans h1, m.rps h2⟩
  | dk l => obtain ⟨vs, h1, h2⟩ := h; exact ⟨vs, e.trans h1, m.rkv h2⟩
  | dt l => obtain ⟨vs, h1, h2⟩ := h; exact ⟨vs, e.trans h1, m.rkv h2⟩
  | ins c fs => obtain ⟨C, dx, vs, h0, h1, h2⟩ := h; exact ⟨C, dx, vs, h0, e.trans h1, m.rkv h2⟩
theorem Mn.rkv (m : Mn ι H ι' H') {κ : Type} {ds : List (κ × D)} {vs : List (κ × V)} (h : Rkv K ι H ds vs) : Rkv K ι' H' ds vs := m.w.rkv h
theorem Mn.or (m : Mn ι H ι' H') {o : O} {a : Addr} (e : H' a = H a) (h : OR K ι H mg o a) : OR K ι' H' mg o a := m.w.or e h
theorem OR.some {o : O} {a : Addr} (h : OR K ι H mg o a) : ∃ u, H a = some u ∧ (∀ xs, u ≠ .tup xs) ∧ ∀ o' u', u ≠ .frz o' u' := by
  cases o with
  | lst l => obtain ⟨vs, h1, h2⟩ := h; exact ⟨_, h1, (by intro _ z; cases z), (by intro _ _ z; cases z)⟩
  | dk l => obtain ⟨vs, h1, h2⟩ := h; exact ⟨_, h1, (by intro _ z; cases z), (by intro _ _ z; cases z)⟩
  | dt l => obtain ⟨vs, h1, h2⟩ := h; exact ⟨_, h1, (by intro _ z; cases z), (by intro _ _ z; cases z)⟩
  | ins c fs => obtain ⟨C, dx, vs, h0, h1, h2⟩ := h; exact ⟨_, h1, (by intro _ z; cases z), (by intro _ _ z; cases z)⟩
theorem SR.mem {S : Store} (h : SR K mg ι S H) {n : Nat} {a : Addr} (e : ι[n]? = some a) : a ∈ ι := List.mem_of_getElem? e
/-- a thing laid at a free place -/
theorem Mn.fresh {p : Addr} {u : HO} (hp : H p = none) : Mn ι H ι (upd H p u) :=
  ⟨⟨[], by simp, by simp⟩, fun a h => by
    by_cases e : a = p
    · subst e; rw [upd_same]; simp
    · rw [upd_ne e]; exact h, fun a xs h => by rw [upd_ne (ne_of_none h hp)]; exact h, fun a o u' h => by rw [upd_ne (ne_of_none h hp)]; exact h, fun a o h _ => by rw [upd_ne (ne_of_none h hp)]; exact h⟩
theorem SR.fresh {S : Store} (h : SR K mg ι S H) {p : Addr} {u : HO} (hp : H p = none) : SR K mg ι S (upd H p u) := by
  have ne : ∀ a ∈ ι, a ≠ p := fun a ha z => by subst z; exact (h.occ a ha).1 hp
  refine ⟨h.nd, h.len, fun a ha => by rw [upd_ne (ne a ha)]; exact h.occ a ha, fun n o e => ?_⟩
  obtain ⟨a, e1, r⟩ := h.obj n o e
  exact ⟨a, e1, (Mn.fresh hp).or (upd_ne (ne a (h.mem e1))) r⟩
/-- a thing that is no object of the store is written -/
theorem Mw.other {p : Addr} {u w : HO} (hp : H p = some w) (ht : ∀ xs, w ≠ .tup xs) (hf : ∀ o x, w ≠ .frz o x) : Mw ι H ι (upd H p u) :=
  ⟨⟨[], by simp⟩, fun a xs h => by rw [upd_ne (fun z => by subst z; rw [hp] at h; exact ht xs (Option.some.inj h))]; exact h, fun a o x h => by rw [upd_ne (fun z => by subst z; rw [hp] at h; exact hf o x (Option.some.inj h))]; exact h⟩
theorem SR.other {S : Store} (h : SR K mg ι S H) {p : Addr} {u w : HO} (hp : H p = some w) (ht : ∀ xs, w ≠ .tup xs) (hf : ∀ o x, w ≠ .frz o x) (hn : p ∉ ι) : SR K mg ι S (upd H p u) := by
  have ne : ∀ a ∈ ι, a ≠ p := fun a ha z => hn (z ▸ ha)
  refine ⟨h.nd, h.len, fun a ha => by rw [upd_ne (ne a ha)]; exact h.occ a ha, fun n o e => ?_⟩
  obtain ⟨a, e1, r⟩ := h.obj n o e
  exact ⟨a, e1, (Mw.other hp ht hf).or (upd_ne (ne a (h.mem e1))) r⟩
theorem Mn.other {H0 : Hp} {ι0 : List Addr} {p : Addr} {u : HO} (m : Mn ι0 H0 ι H) (hp : H0 p = none) : Mn ι0 H0 ι (upd H p u) := by
  refine ⟨m.pre, fun a ha => ?_, fun a xs h => ?_, fun a o x h => ?_, fun a o h hi => ?_⟩
  · by_cases e : a = p
    · subst e; exact absurd hp ha
    · rw [upd_ne e]; exact m.live a ha
  · rw [upd_ne (ne_of_none h hp)]; exact m.tups a xs h
  · rw [upd_ne (ne_of_none h hp)]; exact m.frzs a o x h
  · rw [upd_ne (ne_of_none h hp)]; exact m.kept a o h hi
/-- a new object of the store -/
theorem Mn.new {p : Addr} {u : HO} (hp : H p = none) : Mn ι H (ι ++ [p]) (upd H p u) :=
  ⟨⟨[p], rfl, by simp [hp]⟩, (Mn.fresh (ι := ι) hp).live, (Mn.fresh (ι := ι) hp).tups, (Mn.fresh (ι := ι) hp).frzs, (Mn.fresh (ι := ι) hp).kept⟩
theorem SR.new {S : Store} (h : SR K mg ι S H) {p : Addr} {u : HO} {o : O} (hp : H p = none) (ht : ∀ xs, u ≠ .tup xs) (r : OR K (ι ++ [p]) (upd H p u) mg o p) : SR K mg (ι ++ [p]) (S ++ [some o]) (upd H p u) := by
  have ne : ∀ a ∈ ι, a ≠ p := fun a ha z => by subst z; exact (h.occ a ha).1 hp
  refine ⟨?_, by simp [h.len], fun a ha => ?_, fun n o' e => ?_⟩
  · rw [List.nodup_append]
    exact ⟨h.nd, by simp, fun a ha b hb => by simp at hb; subst hb; exact ne a ha⟩
  · rcases List.mem_append.mp ha with ha | ha
    · rw [upd_ne (ne a ha)]; exact h.occ a ha
    · simp at ha
      subst ha
      rw [upd_same]
      exact ⟨by simp, fun xs z => ht xs (Option.some.inj z)⟩
  · by_cases hn : n < S.length
    · rw [List.getElem?_append_left hn] at e
      obtain ⟨a, e1, r1⟩ := h.obj n o' e
      exact ⟨a, (Mn.new (u := u) hp).ix e1, (Mn.new hp).or (upd_ne (ne a (h.mem e1))) r1⟩
    · rw [List.getElem?_append_right (by omega)] at e
      have hz : n - S.length = 0 := by
        cases q : n - S.length with
        | zero => rfl
        | succ k => rw [q] at e; simp at e
      rw [hz] at e
      simp at e
      subst e
      refine ⟨p, ?_, r⟩
      have : n = ι.length := by have := h.len; omega
      subst this
      simp
/-- an object of the store is written -/
theorem Mn.write {S : Store} (h : SR K mg ι S H) {n : Nat} {a : Addr} {o : O} {u : HO} (e : ι[n]? = some a) (ho : S[n]? = some (some o)) : Mn ι H ι (upd H a u) := by
  obtain ⟨b, e1, r⟩ := h.obj n o ho
  rw [e] at e1
  cases e1
  obtain ⟨w, hw, h1, h2⟩ := r.some
  refine ⟨⟨[], by simp, by simp⟩, fun b hb => ?_, fun b xs hb => ?_, fun b o' u' hb => ?_, fun b o' hb hm => ?_⟩
  · by_cases q : b = a
    · subst q; rw [upd_same]; simp
    · rw [upd_ne q]; exact hb
  · rw [upd_ne (fun q => by subst q; rw [hw] at hb; exact h1 xs (Option.some.inj hb))]; exact hb
  · rw [upd_ne (fun q => by subst q; rw [hw] at hb; exact h2 o' u' (Option.some.inj hb))]; exact hb
  · rw [upd_ne (fun q => by subst q; exact hm (h.mem e))]; exact hb
theorem SR.write {S : Store} (h : SR K mg ι S H) {n : Nat} {a : Addr} {o : O} {o' : Option O} {u : HO} (e : ι[n]? = some a) (ho : S[n]? = some (some o)) (ht : ∀ xs, u ≠ .tup xs)
    (r : ∀ x, o' = some x → OR K ι (upd H a u) mg x a) : SR K mg ι (S.set n o') (upd H a u) := by
  refine ⟨h.nd, by simp [h.len], fun b hb => ?_, fun m x hx => ?_⟩
  · by_cases q : b = a
    · subst q; rw [upd_same]; exact ⟨by simp, fun xs z => ht xs (Option.some.inj z)⟩
    · rw [upd_ne q]; exact h.occ b hb
  · by_cases q : m = n
    · subst q
      have hm : m < S.length := (List.getElem?_eq_some_iff.mp ho).1
      rw [List.getElem?_set_self hm] at hx
      exact ⟨a, e, r x (Option.some.inj hx)⟩
    · rw [List.getElem?_set_ne (Ne.symm q)] at hx
      obtain ⟨b, e1, r1⟩ := h.obj m x hx
      exact ⟨b, e1, (Mn.write h e ho).or (upd_ne (h.ne e1 e q)) r1⟩
end

/-! ### what is wanted behind -/
section
variable (K : PySem.W.Frag) (mg : Str → Option Value)
def Po {α : Type} (ι : List Addr) (H : Hp) (r : R α) (k : α → Store → List Addr → Hp → Prop) (e : Exc → Store → List Addr → Hp → Prop) : Prop := match r with
  | .ok a S' => ∀ ι' H', Mn ι H ι' H' → SR K mg ι' S' H' → k a S' ι' H'
  | .err x S' => ∀ ι' H', Mn ι H ι' H' → SR K mg ι' S' H' → e x S' ι' H'
  | .bad => False
end
section
variable {K : PySem.W.Frag} {mg : Str → Option Value} {ι ι' ι2 : List Addr} {H H' H2 : Hp} {α β : Type}
theorem Po.from {r : R α} {k : α → Store → List Addr → Hp → Prop} {e : Exc → Store → List Addr → Hp → Prop} (m : Mn ι H ι' H') (h : Po K mg ι H r k e) : Po K mg ι' H' r k e := by
  cases r with
  | ok a S => exact fun ι2 H2 m2 s2 => h ι2 H2 (m.trans m2) s2
  | err a S => exact fun ι2 H2 m2 s2 => h ι2 H2 (m.trans m2) s2
  | bad => exact h
theorem Po.imp {r : R α} {k k' : α → Store → List Addr → Hp → Prop} {e e' : Exc → Store → List Addr → Hp → Prop} (h : Po K mg ι H r k e) (hk : ∀ a S' ι' H', Mn ι H ι' H' → SR K mg ι' S' H' → k a S' ι' H' → k' a S' ι' H')
    (he : ∀ x S' ι' H', Mn ι H ι' H' → SR K mg ι' S' H' → e x S' ι' H' → e' x S' ι' H') : Po K mg ι H r k' e' := by
  cases r with
  | ok a S => exact fun ι2 H2 m2 s2 => hk _ _ _ _ m2 s2 (h ι2 H2 m2 s2)
  | err a S => exact fun ι2 H2 m2 s2 => he _ _ _ _ m2 s2 (h ι2 H2 m2 s2)
  | bad => exact h
theorem Po.bnd {m : M α} {f : α → M β} {S : Store} {k : β → Store → List Addr → Hp → Prop} {e : Exc → Store → List Addr → Hp → Prop} (h : Po K mg ι H (bnd m f S) k e) :
    Po K mg ι H (m S) (fun a S1 ι1 H1 => Po K mg ι1 H1 (f a S1) k e) e := by
  unfold DL.bnd at h
  cases q : m S with
  | ok a S1 => rw [q] at h; exact fun ι1 H1 m1 s1 => h.from m1
  | err x S1 => rw [q] at h; exact h
  | bad => rw [q] at h; exact h
theorem Po.ok {a : α} {S : Store} {k : α → Store → List Addr → Hp → Prop} {e : Exc → Store → List Addr → Hp → Prop} (h : Po K mg ι H (.ok a S) k e) (s : SR K mg ι S H) : k a S ι H := h ι H Mn.refl s
theorem Po.bad {k : α → Store → List Addr → Hp → Prop} {e : Exc → Store → List Addr → Hp → Prop} (h : Po K mg ι H (.bad : R α) k e) {P : Prop} : P := False.elim h
end

/-! ### the judgements -/
/-- how an exception lies -/
def XR (K : PySem.W.Frag) (mg : Str → Option Value) (ι : List Addr) (H : Hp) (x : Exc) (c : Value) (d : Option Addr) : Prop :=
  ∃ C, mg x.cls = some (.ref C) ∧ c = .ref C ∧ (x.fs = [] ∨ ∃ dd vs, d = some dd ∧ H dd = some (.xd vs) ∧ Rkv K ι H x.fs vs)
abbrev WE := Value → Option Addr → L2.St → Hp → Prop
/-- the heap may be frozen at what came -/
def Fz (Q : VK) : VK := fun v H => Q v H ∨ ∃ a u, v = .ref a ∧ H a = some u ∧ Mut (some u) ∧ ∀ o, Q v (upd H a (.frz o u))
abbrev kE (K : PySem.W.Frag) (Q : VK) : D → Store → List Addr → Hp → Prop := fun d _ ι' H' => ∀ v, Rp K ι' H' d v → Q v H'
abbrev kA (K : PySem.W.Frag) (Q : List V → Hp → Prop) : List D → Store → List Addr → Hp → Prop := fun d _ ι' H' => ∀ v, Rps K ι' H' d v → Q v H'
abbrev kT (Q : Bool → Hp → Prop) : Bool → Store → List Addr → Hp → Prop := fun b _ _ H' => Q b H'
abbrev kX (K : PySem.W.Frag) (mg : Str → Option Value) (W : WE) (σ : L2.St) : Exc → Store → List Addr → Hp → Prop := fun x _ ι' H' => ∀ c d, XR K mg ι' H' x c d → W c d σ H'
def trE (K : PySem.W.Frag) (mg : Str → Option Value) (W : WE) (f : Frame → M D) : TE := fun σ H Q => ∃ ι fr S, SR K mg ι S H ∧ FR K ι fr σ H ∧ Po K mg ι H (f fr S) (kE K Q) (kX K mg W σ)
def trA (K : PySem.W.Frag) (mg : Str → Option Value) (W : WE) (f : Frame → M (List D)) : TA := fun σ H Q => ∃ ι fr S, SR K mg ι S H ∧ FR K ι fr σ H ∧ Po K mg ι H (f fr S) (kA K Q) (kX K mg W σ)
def trT (K : PySem.W.Frag) (mg : Str → Option Value) (W : WE) (f : Frame → M Bool) : TT := fun σ H Q => ∃ ι fr S, SR K mg ι S H ∧ FR K ι fr σ H ∧ Po K mg ι H (f fr S) (kT Q) (kX K mg W σ)
def DE (X : Cx) (W : WE) (f : Frame → M D) (e : Expr) : Prop := PE X e (trE X.K X.mg W f)
def DA (X : Cx) (W : WE) (f : Frame → M (List D)) (es : List Expr) : Prop := PA X es (trA X.K X.mg W f)
def DT (X : Cx) (W : WE) (f : Frame → M Bool) (e : Expr) : Prop := PT X e (trT X.K X.mg W f)
section
variable {X : Cx} {W : WE} {a b c e : Expr} {pos : Pos}
theorem EP.fz {pins : List (Addr × Obj)} {σ : L2.St} {Q : VK} {u : Value} {s : Shared} (h : EP X pins σ (Fz Q) u s) : EP X pins σ Q u s := by
  obtain ⟨v, H', I, r, q⟩ := h
  rcases q with q | ⟨a, w, rfl, ha, mu, q⟩
  · exact ⟨v, H', I, r, q⟩
  · obtain ⟨o, J⟩ := I.lock ha mu
    exact ⟨.ref a, _, J, r, q o⟩
theorem DE.of {t : TE} {f : Frame → M D} (h : PE X e t) (hm : ∀ σ H Q ι fr S, SR X.K X.mg ι S H → FR X.K ι fr σ H → Po X.K X.mg ι H (f fr S) (kE X.K Q) (kX X.K X.mg W σ) → t σ H (Fz Q)) : DE X W f e := by
  refine ⟨fun pins s σ H Q I ht => ?_⟩
  obtain ⟨ι, fr, S, h1, h2, h3⟩ := ht
  exact thn (h.run pins s σ H _ I (hm σ H Q ι fr S h1 h2 h3)) fun u s' q => EP.fz q
theorem DT.of {t : TT} {f : Frame → M Bool} (h : PT X e t) (hm : ∀ σ H Q ι fr S, SR X.K X.mg ι S H → FR X.K ι fr σ H → Po X.K X.mg ι H (f fr S) (kT Q) (kX X.K X.mg W σ) → t σ H Q) : DT X W f e := by
  refine ⟨fun pins s σ H Q I ht => ?_⟩
  obtain ⟨ι, fr, S, h1, h2, h3⟩ := ht
  exact h.run pins s σ H _ I (hm σ H Q ι fr S h1 h2 h3)
theorem DA.of {t : TA} {f : Frame → M (List D)} {es : List Expr} (h : PA X es t) (hm : ∀ σ H Q ι fr S, SR X.K X.mg ι S H → FR X.K ι fr σ H → Po X.K X.mg ι H (f fr S) (kA X.K Q) (kX X.K X.mg W σ) → t σ H Q) : DA X W f es := by
  refine ⟨fun pos pins s σ H Q I ht => ?_⟩
  obtain ⟨ι, fr, S, h1, h2, h3⟩ := ht
  exact h.run pos pins s σ H _ I (hm σ H Q ι fr S h1 h2 h3)
/-- an expression's part run inside a reading -/
theorem tr_in {f : Frame → M D} {σ : L2.St} {H : Hp} {ι : List Addr} {fr : Frame} {S : Store} {Q : VK} (h1 : SR X.K X.mg ι S H) (h2 : FR X.K ι fr σ H)
    (h : Po X.K X.mg ι H (f fr S) (kE X.K Q) (kX X.K X.mg W σ)) : trE X.K X.mg W f σ H Q := ⟨ι, fr, S, h1, h2, h⟩
end
end DL
namespace DL
open PySem PySem.Spec PyProof.Rows L2

/-! ### the operations on data -/
def oLst : Option (Option O) → Option (List D)
  | some (some (.lst l)) => some l
  | _ => none
theorem oLst_of {x : Option (Option O)} {l : List D} (h : oLst x = some l) : x = some (some (.lst l)) := by
  unfold oLst at h
  split at h
  · cases h; rfl
  · cases h
def lstL (S : Store) : D → Option (List D)
  | .lst l => some l
  | .ob n => oLst S[n]?
  | _ => none
def seqL (S : Store) : D → Option (List D)
  | .tup l => some l
  | .ctu l => some l
  | .ptu l => some l
  | d => lstL S d
def varF (i : Nat) : Frame → M D := fun fr S => match fr[i]? with
  | some (some d) => .ok d S
  | _ => .bad
def cstF (d : D) : Frame → M D := fun _ S => .ok d S
def binF (g : D → D → M D) (f h : Frame → M D) : Frame → M D := fun fr => bnd (f fr) fun x => bnd (h fr) fun y => g x y
def unF (g : D → M D) (f : Frame → M D) : Frame → M D := fun fr => bnd (f fr) g
def addD (x y : D) : M D := fun S => match x, y with
  | .int i, .int j => .ok (.int (i + j)) S
  | .str a, .str b => if a.length + b.length ≤ sizeLine then .ok (.str (a ++ b)) S else .bad
  | .tup l, .tup m => if l.length + m.length ≤ sizeLine then .ok (.tup (l ++ m)) S else .bad
  | x, y => match lstL S x, lstL S y with
    | some l, some m => if l.length + m.length ≤ sizeLine then .ok (.lst (l ++ m)) S else .bad
    | _, _ => .bad
def subD (x y : D) : M D := fun S => match x, y with
  | .int i, .int j => .ok (.int (i - j)) S
  | _, _ => .bad

section
variable {K : PySem.W.Frag} {mg : Str → Option Value} {ι ι' ι2 : List Addr} {H H' H2 : Hp}
theorem lst_at {S : Store} {d : D} {v : V} {l : List D} (s : SR K mg ι S H) (r : Rp K ι H d v) (h : lstL S d = some l) : ∃ a vs, v = .ref a ∧ SqL K H a vs ∧ Rps K ι H l vs := by
  cases d with
  | lst m => cases h; obtain ⟨a, vs, e, h1, h2⟩ := r; exact ⟨a, vs, e, h1.sq, h2⟩
  | ob n =>
    obtain ⟨a, e, h1⟩ := r
    obtain ⟨b, h2, vs, h3, h4⟩ := s.obj n _ (oLst_of (show oLst S[n]? = some l from h))
    rw [h1] at h2
    cases h2
    exact ⟨a, vs, e, .of h3, h4⟩
  | _ => cases h
theorem seq_at {S : Store} {d : D} {v : V} {l : List D} (s : SR K mg ι S H) (r : Rp K ι H d v) (h : seqL S d = some l) : ∃ a vs, v = .ref a ∧ (SqL K H a vs ∨ SqT K H a vs) ∧ Rps K ι H l vs := by
  cases d with
  | tup m => cases h; obtain ⟨a, vs, e, h1, h2⟩ := r; exact ⟨a, vs, e, .inr (.of h1), h2⟩
  | ctu m => cases h; obtain ⟨a, vs, e, h1, h2⟩ := r; exact ⟨a, vs, e, .inr h1, h2⟩
  | ptu m => cases h; obtain ⟨a, o, vs, e, h1, _, h2⟩ := r; exact ⟨a, vs, e, .inr (.inl (.inr ⟨o, h1⟩)), h2⟩
  | lst m => obtain ⟨a, vs, e, h1, h2⟩ := lst_at s r h; exact ⟨a, vs, e, .inl h1, h2⟩
  | ob m => obtain ⟨a, vs, e, h1, h2⟩ := lst_at s r h; exact ⟨a, vs, e, .inl h1, h2⟩
  | _ => cases h
end

/-! ### expressions -/
section
variable {X : Cx} {W : WE} {a b c e : Expr} {pos : Pos} {fa fb fc : Frame → M D}
theorem DE_var {i : Nat} {x : Str} (hN : X.N[i]? = some x) (hv : Vis X.env.scope x) (hd : (x == ("__debug__" : Str)) = false := by decide) (hcd : (x == ("__classdict__" : Str)) = false := by decide) : DE X W (varF i) (.Name x pos) := by
  refine DE.of (pe_var hN hv hd hcd) fun σ H Q ι fr S s f h => ?_
  unfold varF at h
  split at h
  · rename_i d hd
    obtain ⟨v, e, r⟩ := f.2 i d hd
    exact ⟨v, e, .inl (h.ok s v r)⟩
  · exact h.bad
theorem DE_cst {d : D} {v : V} (h : PE X e (tC v)) (r : ∀ ι H, Rp X.K ι H d v) : DE X W (cstF d) e :=
  DE.of h fun σ H Q ι fr S s f q => .inl (q.ok s v (r ι H))
theorem DE_int {i j} : DE X W (cstF (.int i)) (.Constant (.int i) j pos) := DE_cst pe_int fun _ _ => rfl
theorem DE_bl {b j} : DE X W (cstF (.bl b)) (.Constant (.bool b) j pos) := DE_cst pe_bl fun _ _ => rfl
theorem DE_non {j} : DE X W (cstF .non) (.Constant .none j pos) := DE_cst pe_non fun _ _ => rfl
theorem DE_str {x j} : DE X W (cstF (.str x)) (.Constant (.str x) j pos) := DE_cst pe_str fun _ _ => rfl

/-- an operation of two values, on data -/
def OpD (X : Cx) (W : WE) (f : Value → Value → Sem Value) (g : D → D → M D) : Prop :=
  ∃ r : R2, OpR X f r ∧ ∀ ι S H σ x y v u Q, SR X.K X.mg ι S H → Rp X.K ι H x v → Rp X.K ι H y u → Po X.K X.mg ι H (g x y S) (kE X.K Q) (kX X.K X.mg W σ) → r v u H (Fz Q)
theorem two_in {r : R2} {g : D → D → M D} (hr : ∀ ι S H σ x y v u Q, SR X.K X.mg ι S H → Rp X.K ι H x v → Rp X.K ι H y u → Po X.K X.mg ι H (g x y S) (kE X.K Q) (kX X.K X.mg W σ) → r v u H (Fz Q))
    {σ : L2.St} {H : Hp} {Q : VK} {ι : List Addr} {fr : Frame} {S : Store} (s : SR X.K X.mg ι S H) (f : FR X.K ι fr σ H) (h : Po X.K X.mg ι H (binF g fa fb fr S) (kE X.K Q) (kX X.K X.mg W σ)) :
    tOp r (trE X.K X.mg W fa) (trE X.K X.mg W fb) σ H (Fz Q) := by
  refine ⟨ι, fr, S, s, f, h.bnd.imp (fun x S1 ι1 H1 m1 s1 h1 v r1 => ?_) fun _ _ _ _ _ _ z => z⟩
  refine ⟨ι1, fr, S1, s1, m1.fr f, h1.bnd.imp (fun y S2 ι2 H2 m2 s2 h2 u r2 => ?_) fun _ _ _ _ _ _ z => z⟩
  exact hr ι2 S2 H2 σ x y v u Q s2 (m2.rp r1) r2 h2
theorem DE_bin {op : Operator} {g : D → D → M D} (ho : OpD X W (binaryOp op) g) (ha : DE X W fa a) (hb : DE X W fb b) : DE X W (binF g fa fb) (.BinOp a op b pos) := by
  obtain ⟨r, h1, h2⟩ := ho
  exact DE.of (pe_op h1 ha hb) fun σ H Q ι fr S s f h => two_in h2 s f h
theorem OpD_sub : OpD X W (binaryOp .Sub) subD := by
  refine ⟨_, op_sub, fun ι S H σ x y v u Q s r1 r2 h => ?_⟩
  unfold subD at h
  split at h
  · cases r1; cases r2
    exact ⟨_, _, rfl, rfl, .inl (h.ok s _ rfl)⟩
  · exact h.bad
theorem OpD.one {f : Value → Value → Sem Value} {g : D → D → M D} {r : R2} (h : OpR X f r)
    (h2 : ∀ ι S H σ x y v u Q, SR X.K X.mg ι S H → Rp X.K ι H x v → Rp X.K ι H y u → Po X.K X.mg ι H (g x y S) (kE X.K Q) (kX X.K X.mg W σ) → r v u H (Fz Q)) : OpD X W f g := ⟨r, h, h2⟩
/-- a list and a list -/
def rCatL (K : PySem.W.Frag) : R2 := fun x y H Q => ∃ a b xs ys, x = .ref a ∧ y = .ref b ∧ SqL K H a xs ∧ SqL K H b ys ∧ xs.length + ys.length ≤ sizeLine ∧ ∀ p, H p = none → Q (.ref p) (upd H p (.lst (xs ++ ys)))
theorem op_catL : OpR X (binaryOp .Add) (rCatL X.K) := by
  rintro pins s σ H x y v u Q I rx ry ⟨a, b, xs, ys, rfl, rfl, ha, hb, hz, q⟩
  obtain rfl : v = Value.ref a := rx
  obtain rfl : u = Value.ref b := ry
  obtain ⟨i1, r1, ⟨⟨cl1, dd1, da1, sl1⟩, n1, g1, c1, k1, d1⟩, _⟩ := I.list ha
  obtain ⟨i2, r2, ⟨⟨cl2, dd2, da2, sl2⟩, n2, g2, c2, k2, d2⟩, _⟩ := I.list hb
  simp only at c1 k1 d1 c2 k2 d2
  subst c1 k1 d1 c2 k2 d2
  have l1 := r1.length
  have l2 := r2.length
  refine concat_meets ⟨_, g1, rfl⟩ ⟨_, g2, rfl⟩ noFill_list_add seq_list_add PySem.F.slot_list_add PySem.F.entry_list_add (PySem.F.args_list_add_2 _ _)
    (list_addW a b i1.toArray i2.toArray n1 n2 none none sl1 sl2 (by rw [List.size_toArray, List.size_toArray]; omega)) ⟨g1, g2, ?_⟩
  rw [show i1.toArray ++ i2.toArray = (i1 ++ i2).toArray by simp]
  exact ⟨V.ref s.heap.objs.size, _, I.lnew (t' := s.toks) (r1.append r2) (by rw [List.length_append]; omega), rfl, q _ I.fresh⟩
/-- a new frozen list -/
theorem fz_list {ι : List Addr} {S : Store} {H : Hp} {Q : VK} {l : List D} {vs : List V} {e : Exc → Store → List Addr → Hp → Prop} (s : SR X.K X.mg ι S H) (r : Rps X.K ι H l vs) (h : Po X.K X.mg ι H (.ok (.lst l) S) (kE X.K Q) e)
    (p : Addr) (hp : H p = none) : Fz Q (.ref p) (upd H p (.lst vs)) := by
  refine .inr ⟨p, _, rfl, upd_same, trivial, fun o => ?_⟩
  rw [upd_upd]
  have m : Mn ι H ι (upd H p (.frz o (.lst vs))) := Mn.fresh hp
  exact h _ _ m (s.fresh hp) _ ⟨p, vs, rfl, .inl ⟨o, upd_same⟩, m.rps r⟩
theorem nw_tup {ι : List Addr} {S : Store} {H : Hp} {Q : VK} {l : List D} {vs : List V} {e : Exc → Store → List Addr → Hp → Prop} (s : SR X.K X.mg ι S H) (r : Rps X.K ι H l vs) (h : Po X.K X.mg ι H (.ok (.tup l) S) (kE X.K Q) e)
    (p : Addr) (hp : H p = none) : Fz Q (.ref p) (upd H p (.tup vs)) := by
  have m : Mn ι H ι (upd H p (.tup vs)) := Mn.fresh hp
  exact .inl (h _ _ m (s.fresh hp) _ ⟨p, vs, rfl, upd_same, m.rps r⟩)
theorem OpD_add : OpD X W (binaryOp .Add) addD := by
  refine ⟨_, op_add.or (op_add_str.or (op_catA.or op_catL)), fun ι S H σ x y v u Q s r1 r2 h => ?_⟩
  unfold addD at h
  split at h
  · cases r1; cases r2
    exact .inl ⟨_, _, rfl, rfl, .inl (h.ok s _ rfl)⟩
  · cases r1; cases r2
    split at h
    · rename_i hl
      exact .inr (.inl ⟨_, _, rfl, rfl, hl, .inl (h.ok s _ rfl)⟩)
    · exact h.bad
  · rename_i l m
    obtain ⟨a, vs, rfl, ha, ra⟩ := r1
    obtain ⟨b, ws, rfl, hb, rb⟩ := r2
    split at h
    · rename_i hl
      have e1 := ra.length
      have e2 := rb.length
      refine .inr (.inr (.inl ⟨a, b, vs, ws, rfl, rfl, .of ha, .of hb, by omega, fun z => ?_, fun z z' => ?_, fun z z' p hp => nw_tup s (ra.app rb) h p hp⟩))
      · subst z
        have : l = [] := by cases l with | nil => rfl | cons _ _ => simp at e1
        subst this
        exact .inl (h.ok s _ ⟨b, ws, rfl, hb, rb⟩)
      · subst z'
        have : m = [] := by cases m with | nil => rfl | cons _ _ => simp at e2
        subst this
        rw [List.append_nil] at h
        exact .inl (h.ok s _ ⟨a, vs, rfl, ha, ra⟩)
    · exact h.bad
  · split at h
    · rename_i l m h1 h2
      obtain ⟨a, vs, rfl, ha, ra⟩ := lst_at s r1 h1
      obtain ⟨b, ws, rfl, hb, rb⟩ := lst_at s r2 h2
      split at h
      · rename_i hl
        have e1 := ra.length
        have e2 := rb.length
        exact .inr (.inr (.inr ⟨a, b, vs, ws, rfl, rfl, ha, hb, by omega, fz_list s (ra.app rb) h⟩))
      · exact h.bad
    · exact h.bad
end

/-! ### data as the library reads it -/
mutual
def py : D → Option PyData
  | .non => some .none
  | .bl b => some (.bool b)
  | .int i => some (.int i)
  | .str x => some (.str x)
  | .tup l => (pys l).map .tuple
  | .ctu l => (pys l).map .tuple
  | .ptu l => (pys l).map .tuple
  | .lst l => (pys l).map .list
  | .emp => some (.dict [])
  | .ob _ => none
def pys : List D → Option (List PyData)
  | [] => some []
  | d :: ds => match py d, pys ds with
    | some p, some ps => some (p :: ps)
    | _, _ => none
end
def pyS (S : Store) : D → Option PyData
  | .ob n => match oLst S[n]? with
    | some l => (pys l).map .list
    | none => none
  | d => py d
section
variable {X : Cx} {pins : List (Addr × Obj)} {σ : L2.St} {H : Hp} {s : Shared} {ι : List Addr}
mutual
theorem py_reads (I : Inv X pins σ H s) : ∀ (d : D) (v : V) (u : Value) (p : PyData), Rp X.K ι H d v → RelV v u → py d = some p → ∃ as, Reads s.heap u p as
  | .non, v, u, p, r, ru, h => by cases r; cases ru; cases h; exact ⟨_, .none⟩
  | .bl b, v, u, p, r, ru, h => by cases r; cases ru; cases h; exact ⟨_, .bool b⟩
  | .int i, v, u, p, r, ru, h => by cases r; obtain ⟨t, rfl⟩ := ru; cases h; exact ⟨_, .int i t⟩
  | .str x, v, u, p, r, ru, h => by cases r; obtain ⟨t, rfl⟩ := ru; cases h; exact ⟨_, .str x t⟩
  | .tup l, v, u, p, r, ru, h => by
    obtain ⟨a, vs, rfl, ha, ra⟩ := r
    obtain rfl : u = Value.ref a := ru
    obtain ⟨ps, hp, rfl⟩ : ∃ ps, pys l = some ps ∧ p = .tuple ps := by
      unfold py at h
      cases q : pys l with
      | none => rw [q] at h; cases h
      | some ps => rw [q] at h; exact ⟨ps, rfl, (Option.some.inj h).symm⟩
    obtain ⟨its, rv, ⟨o, g, c, n, dd⟩, _⟩ := I.tuple (show SqT X.K H a vs from .of ha)
    obtain ⟨as, q⟩ := pys_reads I l vs its ps ra rv hp
    exact ⟨_, .tuple g c dd (by simpa using q)⟩
  | .ctu l, v, u, p, r, ru, h => by
    obtain ⟨a, vs, rfl, ha, ra⟩ := r
    obtain rfl : u = Value.ref a := ru
    obtain ⟨ps, hp, rfl⟩ : ∃ ps, pys l = some ps ∧ p = .tuple ps := by
      unfold py at h
      cases q : pys l with
      | none => rw [q] at h; cases h
      | some ps => rw [q] at h; exact ⟨ps, rfl, (Option.some.inj h).symm⟩
    obtain ⟨its, rv, ⟨o, g, c, n, dd⟩, _⟩ := I.tuple ha
    obtain ⟨as, q⟩ := pys_reads I l vs its ps ra rv hp
    exact ⟨_, .tuple g c dd (by simpa using q)⟩
  | .ptu l, v, u, p, r, ru, h => by
    obtain ⟨a, oo, vs, rfl, ha, _, ra⟩ := r
    obtain rfl : u = Value.ref a := ru
    obtain ⟨ps, hp, rfl⟩ : ∃ ps, pys l = some ps ∧ p = .tuple ps := by
      unfold py at h
      cases q : pys l with
      | none => rw [q] at h; cases h
      | some ps => rw [q] at h; exact ⟨ps, rfl, (Option.some.inj h).symm⟩
    obtain ⟨its, rv, ⟨o, g, c, n, dd⟩, _⟩ := I.tuple (show SqT X.K H a vs from .inl (.inr ⟨oo, ha⟩))
    obtain ⟨as, q⟩ := pys_reads I l vs its ps ra rv hp
    exact ⟨_, .tuple g c dd (by simpa using q)⟩
  | .lst l, v, u, p, r, ru, h => by
    obtain ⟨a, vs, rfl, ha, ra⟩ := r
    obtain rfl : u = Value.ref a := ru
    obtain ⟨ps, hp, rfl⟩ : ∃ ps, pys l = some ps ∧ p = .list ps := by
      unfold py at h
      cases q : pys l with
      | none => rw [q] at h; cases h
      | some ps => rw [q] at h; exact ⟨ps, rfl, (Option.some.inj h).symm⟩
    obtain ⟨its, rv, ⟨o, n, g, c, _, dd⟩, _⟩ := I.list ha.sq
    obtain ⟨as, q⟩ := pys_reads I l vs its ps ra rv hp
    exact ⟨_, .list g c dd (by simpa using q)⟩
  | .emp, v, u, p, r, ru, h => by
    obtain ⟨a, o, rfl, ha⟩ := r
    obtain rfl : u = Value.ref a := ru
    cases h
    obtain ⟨_, _, _, vs, kv, ob, es, ep, g, ex, hd, _, he, _⟩ := I.hok a _ ha
    cases kv
    have z : es.toList = [] := by
      revert he
      generalize es.toList = el
      intro he
      cases he
      rfl
    exact ⟨_, .dict (n := ep) g ex.1 hd (by rw [z]; exact .nil) (by rw [z]; exact .nil)⟩
  | .ob n, v, u, p, r, ru, h => by cases h
theorem pys_reads (I : Inv X pins σ H s) : ∀ (l : List D) (vs : List V) (us : List Value) (ps : List PyData), Rps X.K ι H l vs → Vals vs us → pys l = some ps → ∃ as, ReadsAll s.heap us ps as
  | [], vs, us, ps, r, ru, h => by cases r; cases ru; cases h; exact ⟨_, .nil⟩
  | d :: ds, vs, us, ps, r, ru, h => by
    obtain ⟨v, w, rfl, r1, r2⟩ := r
    cases ru with
    | cons q1 q2 =>
      unfold pys at h
      cases e1 : py d with
      | none => rw [e1] at h; cases h
      | some p =>
        cases e2 : pys ds with
        | none => rw [e1, e2] at h; cases h
        | some qs =>
          rw [e1, e2] at h
          cases h
          obtain ⟨as, h1⟩ := py_reads I d v _ p r1 q1 e1
          obtain ⟨bs, h2⟩ := pys_reads I ds w _ qs r2 q2 e2
          exact ⟨_, .cons h1 h2⟩
end
end
end DL
namespace DL
open PySem PySem.Spec PyProof.Rows L2
open SeqAt (shaped)

/-! ### comparisons, tests of membership -/
def eqD (x y : D) : M D := fun S => match x, y with
  | .str a, .str b => .ok (.bl (decide (a = b))) S
  | x, y => match pyS S x, pyS S y with
    | some p, some q => if shaped p = true ∧ shaped q = true then .ok (.bl (PyData.eqv p q)) S else .bad
    | _, _ => .bad
def neD (x y : D) : M D := fun S => match x, y with
  | .str a, .str b => .ok (.bl (!decide (a = b))) S
  | x, y => match pyS S x, pyS S y with
    | some p, some q => if shaped p = true ∧ shaped q = true then .ok (.bl (!PyData.eqv p q)) S else .bad
    | _, _ => .bad
def strIn (a b : Str) : Bool := !(Builtin.Str.occurrences b a 0 b.length 1).isEmpty
/-- the items of what is searched -/
def itemsOf : PyData → Option (List PyData)
  | .list ds => some ds
  | .tuple ds => some ds
  | _ => none
def inD (x y : D) : M D := fun S => match x, y with
  | .str a, .str b => .ok (.bl (strIn a b)) S
  | x, y => match pyS S x, pyS S y with
    | some p, some q => if shaped p = true ∧ shaped q = true then (match itemsOf q with
      | some ds => .ok (.bl (ds.any fun z => PyData.eqv z p)) S
      | none => .bad) else .bad
    | _, _ => .bad
def notInD (x y : D) : M D := fun S => match x, y with
  | .str a, .str b => .ok (.bl (!strIn a b)) S
  | x, y => match pyS S x, pyS S y with
    | some p, some q => if shaped p = true ∧ shaped q = true then (match itemsOf q with
      | some ds => .ok (.bl (!ds.any fun z => PyData.eqv z p)) S
      | none => .bad) else .bad
    | _, _ => .bad
def ltD (x y : D) : M D := fun S => match x, y with
  | .int i, .int j => .ok (.bl (decide (i < j))) S
  | .str a, .str b => .ok (.bl (decide (a.cps.toList < b.cps.toList))) S
  | _, _ => .bad
def leD (x y : D) : M D := fun S => match x, y with
  | .int i, .int j => .ok (.bl (decide (i ≤ j))) S
  | _, _ => .bad
def gtD (x y : D) : M D := fun S => match x, y with
  | .int i, .int j => .ok (.bl (decide (j < i))) S
  | _, _ => .bad
def geD (x y : D) : M D := fun S => match x, y with
  | .int i, .int j => .ok (.bl (decide (j ≤ i))) S
  | _, _ => .bad
def isND (x y : D) : M D := fun S => match x, y with
  | .non, .non => .ok (.bl true) S
  | .bl a, .bl b => .ok (.bl (decide (a = b))) S
  | _, .non => .ok (.bl false) S
  | _, _ => .bad
def notND (x y : D) : M D := fun S => match x, y with
  | .non, .non => .ok (.bl false) S
  | .bl a, .bl b => .ok (.bl (!decide (a = b))) S
  | _, .non => .ok (.bl true) S
  | _, _ => .bad
noncomputable def mulD (x y : D) : M D := fun S => match x, y with
  | .int i, .int j => open Classical in if CMulW i j then .ok (.int (i * j)) S else .bad
  | _, _ => .bad
noncomputable def fdivD (x y : D) : M D := fun S => match x, y with
  | .int i, .int j => open Classical in if CDivW i j then .ok (.int (i / j)) S else .bad
  | _, _ => .bad
def modD (x y : D) : M D := fun S => match x, y with
  | .int i, .int j => if 0 < j then .ok (.int (i % j)) S else .bad
  | _, _ => .bad
def powD (x y : D) : M D := fun S => match x, y with
  | .int i, .int j => if 0 ≤ j ∧ j ≤ 1000000 ∧ i.natAbs < 2 ^ 64 then .ok (.int (i ^ j.toNat)) S else .bad
  | _, _ => .bad
def negD (x : D) : M D := fun S => match x with
  | .int i => .ok (.int (-i)) S
  | _ => .bad

section
variable {X : Cx} {W : WE} {a b c e : Expr} {pos : Pos} {fa fb fc : Frame → M D} {ι : List Addr} {H : Hp} {σ : L2.St} {s : Shared} {pins : List (Addr × Obj)}
theorem pyS_ob {S : Store} {n : Nat} : pyS S (.ob n) = (oLst S[n]?).bind fun l => (pys l).map PyData.list := by
  show (match oLst S[n]? with
    | some l => (pys l).map PyData.list
    | none => none) = _
  cases oLst S[n]? <;> rfl
theorem pyS_reads (I : Inv X pins σ H s) {S : Store} (hS : SR X.K X.mg ι S H) {d : D} {v : V} {u : Value} {p : PyData} (r : Rp X.K ι H d v) (ru : RelV v u) (h : pyS S d = some p) : ∃ as, Reads s.heap u p as := by
  cases d with
  | ob n =>
    rw [pyS_ob] at h
    cases q : oLst S[n]? with
    | none => rw [q] at h; cases h
    | some l =>
      rw [q] at h
      cases e : pys l with
      | none => simp only [e, Option.bind, Option.map] at h; cases h
      | some ps =>
        simp only [e, Option.bind, Option.map] at h
        cases h
        obtain ⟨a, vs, rfl, ha, ra⟩ := lst_at (d := .ob n) hS r q
        obtain rfl : u = Value.ref a := ru
        obtain ⟨its, rv, ⟨o, m, g, c, _, dd⟩, _⟩ := I.list ha
        obtain ⟨as, w⟩ := pys_reads I l vs its ps ra rv e
        exact ⟨_, .list g c dd (by simpa using w)⟩
  | _ => exact py_reads I _ v u p r ru h
theorem OpD.base {f : Value → Value → Sem Value} {g : D → D → M D}
    (h : ∀ pins s σ H x y v u (Q : VK) ι S dx dy e, Inv X pins σ H s → RelV x v → RelV y u → SR X.K X.mg ι S H → Rp X.K ι H dx x → Rp X.K ι H dy y → Po X.K X.mg ι H (g dx dy S) (kE X.K Q) e → wpAny (model X.prog X.w) X.A (f v u) (EP X pins σ Q) X.xe s) :
    OpD X W f g := by
  refine ⟨fun x y H Q => ∃ ι S dx dy e, SR X.K X.mg ι S H ∧ Rp X.K ι H dx x ∧ Rp X.K ι H dy y ∧ Po X.K X.mg ι H (g dx dy S) (kE X.K Q) e, ?_, ?_⟩
  · rintro pins s σ H x y v u Q I rx ry ⟨ι, S, dx, dy, e, h1, h2, h3, h4⟩
    exact h pins s σ H x y v u Q ι S dx dy e I rx ry h1 h2 h3 h4
  · intro ι S H σ x y v u Q h1 h2 h3 h4
    exact ⟨ι, S, x, y, _, h1, h2, h3, h4.imp (fun d _ _ _ _ _ z w r => .inl (z w r)) fun _ _ _ _ _ _ z => z⟩
theorem OpD_eq (hu : X.A.units + 64 < cLine) : OpD X W (compareOp .Eq) eqD := by
  refine OpD.base fun pins s σ H x y v u Q ι S dx dy e I rx ry hS r1 r2 h => ?_
  unfold eqD at h
  split at h
  · rename_i a b
    cases r1; cases r2
    refine op_eq pins s σ H _ _ v u Q I rx ry ⟨rfl, ?_⟩
    have q := h.ok hS (.bl (decide (a = b))) rfl
    simpa using q
  · split at h
    · rename_i p q hp hq
      split at h
      · rename_i hs
        obtain ⟨as, w1⟩ := pyS_reads I hS r1 rx hp
        obtain ⟨bs, w2⟩ := pyS_reads I hS r2 ry hq
        exact SeqAt.compareEq_shaped w1 w2 hs.1 hs.2 hu ⟨.bl _, H, I, rfl, h.ok hS _ rfl⟩
      · exact h.bad
    · exact h.bad
theorem OpD_ne (hu : X.A.units + 64 < cLine) : OpD X W (compareOp .NotEq) neD := by
  refine OpD.base fun pins s σ H x y v u Q ι S dx dy e I rx ry hS r1 r2 h => ?_
  unfold neD at h
  split at h
  · rename_i a b
    cases r1; cases r2
    refine op_ne pins s σ H _ _ v u Q I rx ry ⟨rfl, ?_⟩
    have q := h.ok hS (.bl (!decide (a = b))) rfl
    simpa using q
  · split at h
    · rename_i p q hp hq
      split at h
      · rename_i hs
        obtain ⟨as, w1⟩ := pyS_reads I hS r1 rx hp
        obtain ⟨bs, w2⟩ := pyS_reads I hS r2 ry hq
        exact SeqAt.compareNe_shaped w1 w2 hs.1 hs.2 hu ⟨.bl _, H, I, rfl, h.ok hS _ rfl⟩
      · exact h.bad
    · exact h.bad
theorem OpD_lt : OpD X W (compareOp .Lt) ltD := by
  refine ⟨_, op_lt.or op_lt_str, fun ι S H σ x y v u Q s r1 r2 h => ?_⟩
  unfold ltD at h
  split at h
  · cases r1; cases r2
    exact .inl ⟨_, _, rfl, rfl, .inl (h.ok s _ rfl)⟩
  · cases r1; cases r2
    exact .inr ⟨_, _, rfl, rfl, .inl (h.ok s _ rfl)⟩
  · exact h.bad
theorem OpD_le : OpD X W (compareOp .LtE) leD := by
  refine ⟨_, op_le, fun ι S H σ x y v u Q s r1 r2 h => ?_⟩
  unfold leD at h
  split at h
  · cases r1; cases r2
    exact ⟨_, _, rfl, rfl, .inl (h.ok s _ rfl)⟩
  · exact h.bad
theorem OpD_gt : OpD X W (compareOp .Gt) gtD := by
  refine ⟨_, op_gt, fun ι S H σ x y v u Q s r1 r2 h => ?_⟩
  unfold gtD at h
  split at h
  · cases r1; cases r2
    exact ⟨_, _, rfl, rfl, .inl (h.ok s _ rfl)⟩
  · exact h.bad
theorem OpD_ge : OpD X W (compareOp .GtE) geD := by
  refine ⟨_, op_ge, fun ι S H σ x y v u Q s r1 r2 h => ?_⟩
  unfold geD at h
  split at h
  · cases r1; cases r2
    exact ⟨_, _, rfl, rfl, .inl (h.ok s _ rfl)⟩
  · exact h.bad
theorem non_ne {d : D} {v : V} (r : Rp X.K ι H d v) (h : d ≠ .non) : decide (v = .non) = false := by
  refine decide_eq_false fun z => ?_
  subst z
  cases d with
  | non => exact h rfl
  | bl _ => cases r
  | int _ => cases r
  | str _ => cases r
  | tup _ => obtain ⟨_, _, e, _⟩ := r; cases e
  | ctu _ => obtain ⟨_, _, e, _⟩ := r; cases e
  | ptu _ => obtain ⟨_, _, _, e, _⟩ := r; cases e
  | lst _ => obtain ⟨_, _, e, _⟩ := r; cases e
  | emp => obtain ⟨_, _, e, _⟩ := r; cases e
  | ob _ => obtain ⟨_, e, _⟩ := r; cases e
theorem OpD_is : OpD X W (compareOp .Is) isND := by
  refine ⟨_, op_isN.or op_is_bl, fun ι S H σ x y v u Q s r1 r2 h => ?_⟩
  unfold isND at h
  split at h
  · cases r1; cases r2
    exact .inl ⟨rfl, .inl (h.ok s _ rfl)⟩
  · cases r1; cases r2
    exact .inr ⟨_, _, rfl, rfl, .inl (h.ok s _ rfl)⟩
  · rename_i hn
    cases r2
    refine .inl ⟨rfl, .inl ?_⟩
    rw [non_ne r1 hn]
    exact h.ok s _ rfl
  · exact h.bad
theorem OpD_isnot : OpD X W (compareOp .IsNot) notND := by
  refine ⟨_, op_notN.or op_isnot_bl, fun ι S H σ x y v u Q s r1 r2 h => ?_⟩
  unfold notND at h
  split at h
  · cases r1; cases r2
    exact .inl ⟨rfl, .inl (h.ok s _ rfl)⟩
  · cases r1; cases r2
    exact .inr ⟨_, _, rfl, rfl, .inl (h.ok s _ rfl)⟩
  · rename_i hn
    cases r2
    refine .inl ⟨rfl, .inl ?_⟩
    rw [non_ne r1 hn]
    exact h.ok s _ rfl
  · exact h.bad
theorem OpD_mod : OpD X W (binaryOp .Mod) modD := by
  refine ⟨_, op_mod, fun ι S H σ x y v u Q s r1 r2 h => ?_⟩
  unfold modD at h
  split at h
  · cases r1; cases r2
    split at h
    · rename_i hj
      exact ⟨_, _, rfl, rfl, hj, .inl (h.ok s _ rfl)⟩
    · exact h.bad
  · exact h.bad
theorem OpD_fdiv : OpD X W (binaryOp .FloorDiv) fdivD := by
  refine ⟨_, op_fdivW, fun ι S H σ x y v u Q s r1 r2 h => ?_⟩
  unfold fdivD at h
  split at h
  · cases r1; cases r2
    split at h
    · rename_i hj
      exact ⟨_, _, rfl, rfl, hj, .inl (h.ok s _ rfl)⟩
    · exact h.bad
  · exact h.bad
theorem OpD_pow : OpD X W (binaryOp .Pow) powD := by
  refine ⟨_, op_pow, fun ι S H σ x y v u Q s r1 r2 h => ?_⟩
  unfold powD at h
  split at h
  · cases r1; cases r2
    split at h
    · rename_i hj
      exact ⟨_, _, rfl, rfl, hj, .inl (h.ok s _ rfl)⟩
    · exact h.bad
  · exact h.bad
/-- one value's operation -/
def UnD (X : Cx) (W : WE) (f : Value → Sem Value) (g : D → M D) : Prop :=
  ∃ r : V → Hp → VK → Prop, UnR X f r ∧ ∀ ι S H σ x v Q, SR X.K X.mg ι S H → Rp X.K ι H x v → Po X.K X.mg ι H (g x S) (kE X.K Q) (kX X.K X.mg W σ) → r v H (Fz Q)
theorem DE_un {op : UnaryOp} {g : D → M D} (ho : UnD X W (unaryOp op) g) (ha : DE X W fa a) : DE X W (unF g fa) (.UnaryOp op a pos) := by
  obtain ⟨r, h1, h2⟩ := ho
  refine DE.of (pe_un h1 ha) fun σ H Q ι fr S s f h => ?_
  exact ⟨ι, fr, S, s, f, h.bnd.imp (fun x S1 ι1 H1 m1 s1 h1 v r1 => h2 ι1 S1 H1 σ x v Q s1 r1 h1) fun _ _ _ _ _ _ z => z⟩
theorem UnD_neg : UnD X W (unaryOp .USub) negD := by
  refine ⟨_, un_neg, fun ι S H σ x v Q s r1 h => ?_⟩
  unfold negD at h
  split at h
  · cases r1
    exact ⟨_, rfl, .inl (h.ok s _ rfl)⟩
  · exact h.bad
/-- a comparison -/
theorem DE_cmp {op : CmpOp} {g : D → D → M D} (ho : OpD X W (compareOp op) g) (ha : DE X W fa a) (hb : DE X W fb b) (hm : behindInMarks op b = false := by first | exact nomark _ | rfl) : DE X W (binF g fa fb) (.Compare a [op] [b] pos) := by
  obtain ⟨r, h1, h2⟩ := ho
  exact DE.of (pe_cmpR h1 ha hb hm) fun σ H Q ι fr S s f h => two_in h2 s f h
theorem OpD_mul : OpD X W (binaryOp .Mult) mulD := by
  refine ⟨_, op_mulW, fun ι S H σ x y v u Q s r1 r2 h => ?_⟩
  unfold mulD at h
  split at h
  · cases r1; cases r2
    split at h
    · rename_i hj
      exact ⟨_, _, rfl, rfl, hj, .inl (h.ok s _ rfl)⟩
    · exact h.bad
  · exact h.bad
theorem OpD_in (hu : X.A.units + 65 < cLine) : OpD X W (compareOp .In) inD := by
  refine OpD.base fun pins s σ H x y v u Q ι S dx dy e I rx ry hS r1 r2 h => ?_
  unfold inD at h
  split at h
  · cases r1; cases r2
    exact op_in_str pins s σ H _ _ v u Q I rx ry ⟨_, _, rfl, rfl, h.ok hS _ rfl⟩
  · split at h
    · rename_i p q hp hq
      split at h
      · rename_i hs
        obtain ⟨as, w1⟩ := pyS_reads I hS r1 rx hp
        obtain ⟨bs, w2⟩ := pyS_reads I hS r2 ry hq
        cases q with
        | list ds => exact SeqAt.in_list_reads w2 w1 (SeqAt.canLay_of_shaped hs.2) (SeqAt.canLay_of_shaped hs.1) (room_in_shaped hs.1 hu) ⟨.bl _, H, I, rfl, h.ok hS _ rfl⟩
        | tuple ds => exact SeqAt.in_tuple_reads w2 w1 (SeqAt.canLay_of_shaped hs.2) (SeqAt.canLay_of_shaped hs.1) (room_in_shaped hs.1 hu) ⟨.bl _, H, I, rfl, h.ok hS _ rfl⟩
        | _ => exact h.bad
      · exact h.bad
    · exact h.bad
theorem OpD_notin (hu : X.A.units + 65 < cLine) : OpD X W (compareOp .NotIn) notInD := by
  refine OpD.base fun pins s σ H x y v u Q ι S dx dy e I rx ry hS r1 r2 h => ?_
  unfold notInD at h
  split at h
  · cases r1; cases r2
    exact op_notin_str pins s σ H _ _ v u Q I rx ry ⟨_, _, rfl, rfl, h.ok hS _ rfl⟩
  · split at h
    · rename_i p q hp hq
      split at h
      · rename_i hs
        obtain ⟨as, w1⟩ := pyS_reads I hS r1 rx hp
        obtain ⟨bs, w2⟩ := pyS_reads I hS r2 ry hq
        cases q with
        | list ds => exact SeqAt.notIn_list_reads w2 w1 (SeqAt.canLay_of_shaped hs.2) (SeqAt.canLay_of_shaped hs.1) (room_in_shaped hs.1 hu) ⟨.bl _, H, I, rfl, h.ok hS _ rfl⟩
        | tuple ds => exact SeqAt.notIn_tuple_reads w2 w1 (SeqAt.canLay_of_shaped hs.2) (SeqAt.canLay_of_shaped hs.1) (room_in_shaped hs.1 hu) ⟨.bl _, H, I, rfl, h.ok hS _ rfl⟩
        | _ => exact h.bad
      · exact h.bad
    · exact h.bad
/-! ### truth, tests -/
def truF (d : D) : M Bool := fun S => match d with
  | .non => .ok false S
  | .bl b => .ok b S
  | .int i => .ok (i != 0) S
  | d => match seqL S d with
    | some l => .ok (!l.isEmpty) S
    | none => .bad
def tstF (f : Frame → M D) : Frame → M Bool := fun fr => bnd (f fr) truF
def notF (f : Frame → M Bool) : Frame → M Bool := fun fr => bnd (f fr) fun b => ret (!b)
def andF (f g : Frame → M Bool) : Frame → M Bool := fun fr => bnd (f fr) fun b => match b with
  | true => g fr
  | false => ret false
def orF (f g : Frame → M Bool) : Frame → M Bool := fun fr => bnd (f fr) fun b => match b with
  | true => ret true
  | false => g fr
def boolF (f : Frame → M Bool) : Frame → M D := fun fr => bnd (f fr) fun b => ret (.bl b)
def iteF (c : Frame → M Bool) (f g : Frame → M D) : Frame → M D := fun fr => bnd (c fr) fun b => match b with
  | true => f fr
  | false => g fr
theorem isEmpty_rps {l : List D} {vs : List V} (r : Rps X.K ι H l vs) : (!l.isEmpty) = !vs.isEmpty := by
  cases l with
  | nil => cases r; rfl
  | cons _ _ => obtain ⟨_, _, rfl, _⟩ := r; rfl
/-- an expression as a test, its value a bool -/
theorem DT_val {f : Frame → M D} (ha : DE X W f e) (he : ∀ whole, isTrue e X.env whole = (do let v ← whole; standAt e.pos; holding [v] (truthy v)) := by intro _; rfl) : DT X W (tstF f) e := by
  refine DT.of (pt_truth ha he) fun σ H Q ι fr S s fr' h => ?_
  refine ⟨ι, fr, S, s, fr', h.bnd.imp (fun d S1 ι1 H1 m1 s1 h1 v r1 => ?_) fun _ _ _ _ _ _ z => z⟩
  unfold truF at h1
  split at h1
  · cases r1; exact ⟨_, rfl, h1.ok s1⟩
  · cases r1; exact ⟨_, rfl, h1.ok s1⟩
  · cases r1; exact ⟨_, rfl, h1.ok s1⟩
  · split at h1
    · rename_i l hl
      obtain ⟨a, vs, rfl, hs, rs⟩ := seq_at s1 r1 hl
      have q : kT Q (!l.isEmpty) S1 ι1 H1 := h1.ok s1
      rw [isEmpty_rps rs] at q
      rcases hs with hs | hs
      · exact ⟨_, .inl ⟨vs, hs, rfl⟩, q⟩
      · exact ⟨_, .inr (.inl ⟨vs, hs, rfl⟩), q⟩
    · exact h1.bad
/-- an expression runs -/
theorem DE.step {α : Type} {f : Frame → M D} {g : D → M α} {fr : Frame} {S : Store} {k : α → Store → List Addr → Hp → Prop} (ha : DE X W f a) (I : Inv X pins σ H s) (hS : SR X.K X.mg ι S H) (hF : FR X.K ι fr σ H)
    (h : Po X.K X.mg ι H (bnd (f fr) g S) k (kX X.K X.mg W σ)) :
    wpAny (model X.prog X.w) X.A (eval a X.env) (fun u s1 => ∃ v H1 ι1 S1 d, Inv X pins σ H1 s1 ∧ RelV v u ∧ Mn ι H ι1 H1 ∧ SR X.K X.mg ι1 S1 H1 ∧ FR X.K ι1 fr σ H1 ∧ Rp X.K ι1 H1 d v ∧ Po X.K X.mg ι1 H1 (g d S1) k (kX X.K X.mg W σ)) X.xe s := by
  refine thn (PE.run ha pins s σ H (fun v H1 => ∃ ι1 S1 d, Mn ι H ι1 H1 ∧ SR X.K X.mg ι1 S1 H1 ∧ Rp X.K ι1 H1 d v ∧ Po X.K X.mg ι1 H1 (g d S1) k (kX X.K X.mg W σ)) I
    ⟨ι, fr, S, hS, hF, h.bnd.imp (fun d S1 ι1 H1 m1 s1 h1 v r1 => ⟨ι1, S1, d, m1, s1, r1, h1⟩) fun _ _ _ _ _ _ z => z⟩) fun u s1 q => ?_
  obtain ⟨v, H1, I1, ru, ι1, S1, d, m1, s1', r1, h1⟩ := q
  exact ⟨v, H1, ι1, S1, d, I1, ru, m1, s1', m1.fr hF, r1, h1⟩
theorem DT.step {α : Type} {f : Frame → M Bool} {g : Bool → M α} {fr : Frame} {S : Store} {k : α → Store → List Addr → Hp → Prop} (ha : DT X W f a) (I : Inv X pins σ H s) (hS : SR X.K X.mg ι S H) (hF : FR X.K ι fr σ H)
    (h : Po X.K X.mg ι H (bnd (f fr) g S) k (kX X.K X.mg W σ)) :
    wpAny (model X.prog X.w) X.A (isTrue a X.env (eval a X.env)) (fun b s1 => ∃ H1 ι1 S1, Inv X pins σ H1 s1 ∧ Mn ι H ι1 H1 ∧ SR X.K X.mg ι1 S1 H1 ∧ FR X.K ι1 fr σ H1 ∧ Po X.K X.mg ι1 H1 (g b S1) k (kX X.K X.mg W σ)) X.xe s := by
  refine thn (PT.run ha pins s σ H (fun b H1 => ∃ ι1 S1, Mn ι H ι1 H1 ∧ SR X.K X.mg ι1 S1 H1 ∧ Po X.K X.mg ι1 H1 (g b S1) k (kX X.K X.mg W σ)) I
    ⟨ι, fr, S, hS, hF, h.bnd.imp (fun d S1 ι1 H1 m1 s1 h1 => ⟨ι1, S1, m1, s1, h1⟩) fun _ _ _ _ _ _ z => z⟩) fun u s1 q => ?_
  obtain ⟨H1, I1, ι1, S1, m1, s1', h1⟩ := q
  exact ⟨H1, ι1, S1, I1, m1, s1', m1.fr hF, h1⟩
theorem OpD.wp {f : Value → Value → Sem Value} {g : D → D → M D} (ho : OpD X W f g) {x y : D} {v u : V} {vv uu : Value} {S : Store} {Q : VK} (I : Inv X pins σ H s) (rv : RelV v vv) (ru : RelV u uu) (hS : SR X.K X.mg ι S H)
    (r1 : Rp X.K ι H x v) (r2 : Rp X.K ι H y u) (h : Po X.K X.mg ι H (g x y S) (kE X.K Q) (kX X.K X.mg W σ)) : wpAny (model X.prog X.w) X.A (f vv uu) (EP X pins σ Q) X.xe s := by
  obtain ⟨r, h1, h2⟩ := ho
  exact thn (h1 pins s σ H v u vv uu _ I rv ru (h2 ι S H σ x y v u Q hS r1 r2 h)) fun _ _ q => EP.fz q
/-- a bool -/
def tsb (d : D) : M Bool := fun S => match d with
  | .bl b => .ok b S
  | _ => .bad
def tbF (f : Frame → M D) : Frame → M Bool := fun fr => bnd (f fr) tsb
theorem bnd_assoc {α β γ : Type} (m : M α) (f : α → M β) (g : β → M γ) : bnd (bnd m f) g = bnd m fun a => bnd (f a) g := by
  funext S
  unfold bnd
  cases m S <;> rfl
theorem DT_cmp {op : CmpOp} {g : D → D → M D} (ho : OpD X W (compareOp op) g) (ha : DE X W fa a) (hb : DE X W fb b) (hm : behindInMarks op b = false := by first | exact nomark _ | rfl) : DT X W (tbF (binF g fa fb)) (.Compare a [op] [b] pos) := by
  refine ⟨fun pins s σ H Q I ht => ?_⟩
  obtain ⟨ι, fr, S, hS, hF, h⟩ := ht
  unfold tbF binF at h
  rw [bnd_assoc] at h
  refine wpAny_isTrue_Compare1 (thn (ha.step I hS hF h) fun v1 s1 ⟨x, H1, ι1, S1, d1, I1, rx, m1, hS1, hF1, r1, h1⟩ => ?_) hm
  rw [bnd_assoc] at h1
  refine thn (hb.step I1 hS1 hF1 h1) fun v2 s2 ⟨y, H2, ι2, S2, d2, I2, ry, m2, hS2, hF2, r2, h2⟩ => ?_
  refine thn (ho.wp (Q := fun z H3 => ∃ k, z = .bl k ∧ Q k H3) I2 rx ry hS2 (m2.rp r1) r2 (h2.bnd.imp (fun d S3 ι3 H3 m3 s3 h3 z rz => ?_) fun _ _ _ _ _ _ z => z)) fun c s3 ⟨z, H3, I3, r3, k, e, q3⟩ => ?_
  · unfold tsb at h3
    split at h3
    · cases rz
      exact ⟨_, rfl, h3.ok s3⟩
    · exact h3.bad
  · subst e
    cases r3
    exact wpAny_truthy_bool ⟨H3, I3, q3⟩
theorem DT_not {f : Frame → M Bool} (h : DT X W f e) : DT X W (notF f) (.UnaryOp .Not e pos) :=
  DT.of (pt_not h) fun σ H Q ι fr S s fr' q => ⟨ι, fr, S, s, fr', q.bnd.imp (fun b S1 ι1 H1 m1 s1 h1 => h1.ok s1) fun _ _ _ _ _ _ z => z⟩
/-- a chain of and, or -/
def DW (X : Cx) (W : WE) (f : Frame → M Bool) (e : Expr) : Prop := PW X e (trT X.K X.mg W f)
theorem DW.of {t : TT} {f : Frame → M Bool} (h : PW X e t) (hm : ∀ σ H Q ι fr S, SR X.K X.mg ι S H → FR X.K ι fr σ H → Po X.K X.mg ι H (f fr S) (kT Q) (kX X.K X.mg W σ) → t σ H Q) : DW X W f e := by
  refine ⟨fun wh pins s σ H Q I ht => ?_⟩
  obtain ⟨ι, fr, S, h1, h2, h3⟩ := ht
  exact h.run wh pins s σ H _ I (hm σ H Q ι fr S h1 h2 h3)
theorem DW.pt {f : Frame → M Bool} (h : DW X W f e) : DT X W f e := PW.pt h
variable {rest : List Expr} {f g : Frame → M Bool}
theorem DW_and1 (h : DT X W f a) : DW X W f (.BoolOp .And [a] pos) := pw_and1 h
theorem DW_or1 (h : DT X W f a) : DW X W f (.BoolOp .Or [a] pos) := pw_or1 h
theorem DW_and (h : DT X W f a) (h' : DW X W g (.BoolOp .And (b :: rest) pos)) : DW X W (andF f g) (.BoolOp .And (a :: b :: rest) pos) := by
  refine DW.of (pw_and h h') fun σ H Q ι fr S s fr' q => ⟨ι, fr, S, s, fr', q.bnd.imp (fun c S1 ι1 H1 m1 s1 h1 => ?_) fun _ _ _ _ _ _ z => z⟩
  cases c with
  | true => exact (if_pos rfl).mpr ⟨ι1, fr, S1, s1, m1.fr fr', h1⟩
  | false => exact (if_neg Bool.false_ne_true).mpr (h1.ok s1)
theorem DW_or (h : DT X W f a) (h' : DW X W g (.BoolOp .Or (b :: rest) pos)) : DW X W (orF f g) (.BoolOp .Or (a :: b :: rest) pos) := by
  refine DW.of (pw_or h h') fun σ H Q ι fr S s fr' q => ⟨ι, fr, S, s, fr', q.bnd.imp (fun c S1 ι1 H1 m1 s1 h1 => ?_) fun _ _ _ _ _ _ z => z⟩
  cases c with
  | true => exact (if_pos rfl).mpr (h1.ok s1)
  | false => exact (if_neg Bool.false_ne_true).mpr ⟨ι1, fr, S1, s1, m1.fr fr', h1⟩
theorem DE_ite {c : Expr} (h : DT X W f c) (ha : DE X W fa a) (hb : DE X W fb b) : DE X W (iteF f fa fb) (.IfExp c a b pos) := by
  refine DE.of (pe_ifExp h ha hb) fun σ H Q ι fr S s fr' q => ⟨ι, fr, S, s, fr', q.bnd.imp (fun c S1 ι1 H1 m1 s1 h1 => ?_) fun _ _ _ _ _ _ z => z⟩
  cases c with
  | true => exact (if_pos rfl).mpr ⟨ι1, fr, S1, s1, m1.fr fr', h1.imp (fun d _ _ _ _ _ z v r => .inl (z v r)) fun _ _ _ _ _ _ z => z⟩
  | false => exact (if_neg Bool.false_ne_true).mpr ⟨ι1, fr, S1, s1, m1.fr fr', h1.imp (fun d _ _ _ _ _ z v r => .inl (z v r)) fun _ _ _ _ _ _ z => z⟩
/-- .. as values -/
def andV (f g : Frame → M D) : Frame → M D := fun fr => bnd (f fr) fun x => bnd (tsb x) fun b => match b with
  | true => g fr
  | false => ret (.bl false)
def orV (f g : Frame → M D) : Frame → M D := fun fr => bnd (f fr) fun x => bnd (tsb x) fun b => match b with
  | true => ret (.bl true)
  | false => g fr
def notV (f : Frame → M D) : Frame → M D := fun fr => bnd (f fr) fun x => bnd (tsb x) fun b => ret (.bl !b)
theorem tsb_at {α : Type} {S : Store} {d : D} {v : V} {g : Bool → M α} {k : α → Store → List Addr → Hp → Prop} {e : Exc → Store → List Addr → Hp → Prop} (r : Rp X.K ι H d v) (h : Po X.K X.mg ι H (bnd (tsb d) g S) k e) :
    ∃ b, v = .bl b ∧ d = .bl b ∧ Po X.K X.mg ι H (g b S) k e := by
  cases d with
  | bl b => cases r; exact ⟨b, rfl, rfl, h⟩
  | _ => exact h.bad
theorem DE_one {op} (h : DE X W fa a) : DE X W fa (.BoolOp op [a] pos) := pe_one h
theorem DE_and (ha : DE X W fa a) (hb : DE X W fb (.BoolOp .And (b :: rest) pos)) : DE X W (andV fa fb) (.BoolOp .And (a :: b :: rest) pos) := by
  refine DE.of (pe_and ha hb) fun σ H Q ι fr S s fr' q => ⟨ι, fr, S, s, fr', q.bnd.imp (fun c S1 ι1 H1 m1 s1 h1 v r1 => ?_) fun _ _ _ _ _ _ z => z⟩
  obtain ⟨b, rfl, rfl, h2⟩ := tsb_at r1 h1
  refine ⟨b, rfl, ?_⟩
  cases b with
  | true => exact (if_pos rfl).mpr ⟨ι1, fr, S1, s1, m1.fr fr', h2.imp (fun d _ _ _ _ _ z v r => .inl (z v r)) fun _ _ _ _ _ _ z => z⟩
  | false => exact (if_neg Bool.false_ne_true).mpr (.inl (h2.ok s1 _ rfl))
theorem DE_or (ha : DE X W fa a) (hb : DE X W fb (.BoolOp .Or (b :: rest) pos)) : DE X W (orV fa fb) (.BoolOp .Or (a :: b :: rest) pos) := by
  refine DE.of (pe_or ha hb) fun σ H Q ι fr S s fr' q => ⟨ι, fr, S, s, fr', q.bnd.imp (fun c S1 ι1 H1 m1 s1 h1 v r1 => ?_) fun _ _ _ _ _ _ z => z⟩
  obtain ⟨b, rfl, rfl, h2⟩ := tsb_at r1 h1
  refine ⟨b, rfl, ?_⟩
  cases b with
  | true => exact (if_pos rfl).mpr (.inl (h2.ok s1 _ rfl))
  | false => exact (if_neg Bool.false_ne_true).mpr ⟨ι1, fr, S1, s1, m1.fr fr', h2.imp (fun d _ _ _ _ _ z v r => .inl (z v r)) fun _ _ _ _ _ _ z => z⟩
theorem DE_not (ha : DE X W fa a) : DE X W (notV fa) (.UnaryOp .Not a pos) := by
  refine DE.of (pe_not ha) fun σ H Q ι fr S s fr' q => ⟨ι, fr, S, s, fr', q.bnd.imp (fun c S1 ι1 H1 m1 s1 h1 v r1 => ?_) fun _ _ _ _ _ _ z => z⟩
  obtain ⟨b, rfl, rfl, h2⟩ := tsb_at r1 h1
  exact ⟨b, rfl, .inl (h2.ok s1 _ rfl)⟩
end
end DL
namespace DL
open PySem PySem.Spec PyProof.Rows L2
open SeqAt (shaped)
section
variable {K : PySem.W.Frag} {mg : Str → Option Value} {ι : List Addr} {H : Hp} {α β : Type}
theorem Po.bndE {m : M α} {f : α → M β} {S : Store} {k : β → Store → List Addr → Hp → Prop} {e : Exc → Store → List Addr → Hp → Prop} (h : Po K mg ι H (DL.bnd m f S) k e) :
    Po K mg ι H (m S) (fun a S1 ι1 H1 => m S = .ok a S1 ∧ Po K mg ι1 H1 (f a S1) k e) e := by
  have q := h.bnd
  cases hm : m S with
  | ok a S1 => rw [hm] at q; exact fun ι1 H1 m1 s1 => ⟨rfl, q ι1 H1 m1 s1⟩
  | err x S1 => rw [hm] at q; exact q
  | bad => rw [hm] at q; exact q
end
/-- the arguments, from the left -/
def seqA : List (Frame → M D) → Frame → M (List D)
  | [], _ => ret []
  | f :: fs, fr => bnd (f fr) fun x => bnd (seqA fs fr) fun xs => ret (x :: xs)
theorem seqA_len : ∀ {fs : List (Frame → M D)} {fr : Frame} {S S' : Store} {l : List D}, seqA fs fr S = .ok l S' → l.length = fs.length
  | [], _, _, _, _, h => by cases h; rfl
  | f :: fs, fr, S, S', l, h => by
    unfold seqA bnd at h
    cases e : f fr S with
    | ok x S1 =>
      rw [e] at h
      cases e2 : seqA fs fr S1 with
      | ok xs S2 =>
        simp only [bnd, e2, ret] at h
        cases h
        simp [seqA_len e2]
      | err x S2 => simp only [bnd, e2] at h; cases h
      | bad => simp only [bnd, e2] at h; cases h
    | err x S1 => rw [e] at h; cases h
    | bad => rw [e] at h; cases h
def tupF (fs : List (Frame → M D)) : Frame → M D := fun fr => bnd (seqA fs fr) fun l => ret (.tup l)
def lstF (fs : List (Frame → M D)) : Frame → M D := fun fr => bnd (seqA fs fr) fun l => ret (.lst l)
def newO (o : O) : M D := fun S => .ok (.ob S.length) (S ++ [some o])
def lstO (fs : List (Frame → M D)) : Frame → M D := fun fr => bnd (seqA fs fr) fun l => newO (.lst l)
def ixD (x y : D) : M D := fun S => match x, y with
  | .str z, .int i => if z.length ≤ sizeLine then (match atI z.cps.toList i with
    | some c => .ok (.str ⟨#[c]⟩) S
    | none => .bad) else .bad
  | x, .int i => match seqL S x with
    | some l => (match atI l i with
      | some d => .ok d S
      | none => .bad)
    | none => .bad
  | _, _ => .bad
def cutD (l : List D) (lo hi : Option Int) : List D := (l.drop (HT.sIx l.length 0 lo)).take (HT.sIx l.length l.length hi - HT.sIx l.length 0 lo)
def sliD (x : D) (lo hi : Option Int) : M D := fun S => match x with
  | .tup l => .ok (.tup (cutD l lo hi)) S
  | x => match lstL S x with
    | some l => .ok (.lst (cutD l lo hi)) S
    | none => .bad
def sliO (x : D) (lo hi : Option Int) : M D := fun S => match lstL S x with
    | some l => newO (.lst (cutD l lo hi)) S
    | none => .bad
/-- a part of a slice -/
def prtF : Option (Frame → M D) → Frame → M (Option Int)
  | none, _ => ret none
  | some f, fr => bnd (f fr) fun x => fun S => match x with
    | .int i => .ok (some i) S
    | _ => .bad
def sliF (g : D → Option Int → Option Int → M D) (f : Frame → M D) (lo hi : Option (Frame → M D)) : Frame → M D := fun fr => bnd (f fr) fun x => bnd (prtF lo fr) fun l => bnd (prtF hi fr) fun h => g x l h
def calF (g : List D → M D) (fs : List (Frame → M D)) : Frame → M D := fun fr => bnd (seqA fs fr) g
section
variable {X : Cx} {W : WE} {a b c e : Expr} {pos : Pos} {fa fb fc : Frame → M D} {ι : List Addr} {H : Hp} {σ : L2.St} {s : Shared} {pins : List (Addr × Obj)} {es : List Expr} {fs : List (Frame → M D)}
theorem DA_nil : DA X W (seqA []) [] := DA.of pa_nil fun σ H Q ι fr S s f h => h.ok s _ rfl
theorem DA_cons (ha : DE X W fa a) (hs : DA X W (seqA fs) es) (h1 : starEach (a :: es) X.env = (false, eval a X.env) :: starEach es X.env := by rfl) : DA X W (seqA (fa :: fs)) (a :: es) := by
  refine DA.of (pa_cons ha hs h1) fun σ H Q ι fr S s f h => ⟨ι, fr, S, s, f, h.bnd.imp (fun x S1 ι1 H1 m1 s1 h1 v r1 => ?_) fun _ _ _ _ _ _ z => z⟩
  exact ⟨ι1, fr, S1, s1, m1.fr f, h1.bnd.imp (fun xs S2 ι2 H2 m2 s2 h2 vs r2 => h2.ok s2 _ ⟨v, vs, rfl, m2.rp r1, r2⟩) fun _ _ _ _ _ _ z => z⟩
theorem small_line {n : Nat} (h : n ≤ 1000) : n ≤ sizeLine := by rw [sizeLine_eq]; omega
theorem DE_tup {k : Nat} (h : DA X W (seqA fs) es) (hn : fs.length ≤ 1000 := by exact Nat.le_of_ble_eq_true rfl) : DE X W (tupF fs) (.Tuple es k pos) := by
  refine DE.of (pe_tup h) fun σ H Q ι fr S s f q => ⟨ι, fr, S, s, f, q.bndE.imp (fun l S1 ι1 H1 m1 s1 h1 vs r1 => ?_) fun _ _ _ _ _ _ z => z⟩
  obtain ⟨he, h1⟩ := h1
  have hl := seqA_len he
  exact ⟨by rw [← r1.length, hl]; exact small_line hn, nw_tup s1 r1 h1⟩
theorem DE_lst (h : DA X W (seqA fs) es) (hn : fs.length ≤ 1000 := by exact Nat.le_of_ble_eq_true rfl) : DE X W (lstF fs) (.List es pos) := by
  refine DE.of (pe_lst h) fun σ H Q ι fr S s f q => ⟨ι, fr, S, s, f, q.bndE.imp (fun l S1 ι1 H1 m1 s1 h1 vs r1 => ?_) fun _ _ _ _ _ _ z => z⟩
  obtain ⟨he, h1⟩ := h1
  have hl := seqA_len he
  exact ⟨by rw [← r1.length, hl]; exact small_line hn, fz_list s1 r1 h1⟩
/-- a new list of the store -/
theorem ob_list {S : Store} {Q : VK} {l : List D} {vs : List V} {e : Exc → Store → List Addr → Hp → Prop} (s : SR X.K X.mg ι S H) (r : Rps X.K ι H l vs) (h : Po X.K X.mg ι H (newO (.lst l) S) (kE X.K Q) e)
    (p : Addr) (hp : H p = none) : Fz Q (.ref p) (upd H p (.lst vs)) := by
  have m : Mn ι H (ι ++ [p]) (upd H p (.lst vs)) := Mn.new hp
  refine .inl (h _ _ m (s.new hp (by intro _ z; cases z) ⟨vs, upd_same, m.rps r⟩) _ ⟨p, rfl, ?_⟩)
  rw [s.len]
  simp
theorem DE_lstO (h : DA X W (seqA fs) es) (hn : fs.length ≤ 1000 := by exact Nat.le_of_ble_eq_true rfl) : DE X W (lstO fs) (.List es pos) := by
  refine DE.of (pe_lst h) fun σ H Q ι fr S s f q => ⟨ι, fr, S, s, f, q.bndE.imp (fun l S1 ι1 H1 m1 s1 h1 vs r1 => ?_) fun _ _ _ _ _ _ z => z⟩
  obtain ⟨he, h1⟩ := h1
  have hl := seqA_len he
  exact ⟨by rw [← r1.length, hl]; exact small_line hn, ob_list s1 r1 h1⟩
theorem atI_rps {l : List D} {vs : List V} {i : Int} {d : D} (r : Rps X.K ι H l vs) (h : atI l i = some d) : ∃ v, atI vs i = some v ∧ Rp X.K ι H d v := by
  unfold atI at h ⊢
  rw [← r.length]
  cases q : ixN l.length i with
  | none => rw [q] at h; cases h
  | some j =>
    rw [q] at h
    exact r.get (i := j) h
theorem DE_ix (ha : DE X W fa a) (hb : DE X W fb b) (hs : PlainIx b := by exact fun _ _ => rfl) : DE X W (binF ixD fa fb) (.Subscript a b pos) := by
  refine DE.of (pe_ix ix_seq ha hb hs) fun σ H Q ι fr S s f h => two_in (fun ι S H σ x y v u Q s r1 r2 h => ?_) s f h
  unfold ixD at h
  split at h
  · cases r1; cases r2
    split at h
    · rename_i hz
      split at h
      · rename_i c hc
        exact .inr (.inr ⟨_, _, c, rfl, rfl, hz, hc, .inl (h.ok s _ rfl)⟩)
      · exact h.bad
    · exact h.bad
  · cases r2
    split at h
    · rename_i l hl
      obtain ⟨p, vs, rfl, hq, rs⟩ := seq_at s r1 hl
      split at h
      · rename_i d hd
        obtain ⟨v, hv, rv⟩ := atI_rps rs hd
        rcases hq with hq | hq
        · exact .inl ⟨p, vs, _, v, rfl, rfl, hq, hv, .inl (h.ok s _ rv)⟩
        · exact .inr (.inl ⟨p, vs, _, v, rfl, rfl, hq, hv, .inl (h.ok s _ rv)⟩)
      · exact h.bad
    · exact h.bad
  · exact h.bad
/-- a slice's part -/
def DO (X : Cx) (W : WE) (f : Option (Frame → M D)) (o : Option Expr) : Prop := PO X o (fun σ H Q => ∃ ι fr S, SR X.K X.mg ι S H ∧ FR X.K ι fr σ H ∧ Po X.K X.mg ι H (prtF f fr S) (fun i _ _ H' => Q i H') (kX X.K X.mg W σ))
theorem DO_none : DO X W none none := ⟨fun pins s σ H Q I h => by
  obtain ⟨ι, fr, S, hS, hF, h⟩ := h
  exact po_none.run pins s σ H Q I (h.ok hS)⟩
theorem DO_some (ha : DE X W fa a) : DO X W (some fa) (some a) := ⟨fun pins s σ H Q I h => by
  obtain ⟨ι, fr, S, hS, hF, h⟩ := h
  refine (po_some ha).run pins s σ H Q I ⟨ι, fr, S, hS, hF, h.bnd.imp (fun x S1 ι1 H1 m1 s1 h1 v r1 => ?_) fun _ _ _ _ _ _ z => z⟩
  split at h1
  · cases r1; exact ⟨_, rfl, h1.ok s1⟩
  · exact h1.bad⟩
theorem cut_rps {l : List D} {vs : List V} {lo hi : Option Int} (r : Rps X.K ι H l vs) : Rps X.K ι H (cutD l lo hi) (cutV vs lo hi) := by
  unfold cutD cutV
  rw [r.length]
  exact Rps.take _ (Rps.drop _ r)
theorem cut_whole {l : List D} {lo hi : Option Int} (h : HT.sIx l.length 0 lo = 0 ∧ HT.sIx l.length l.length hi = l.length) : cutD l lo hi = l := by
  unfold cutD
  rw [h.1, h.2]
  simp
variable {o1 o2 : Option Expr} {f1 f2 : Option (Frame → M D)} {p2 : Pos}
theorem DE_sli (ha : DE X W fa a) (h1 : DO X W f1 o1) (h2 : DO X W f2 o2) : DE X W (sliF sliD fa f1 f2) (.Subscript a (.Slice o1 o2 none p2) pos) := by
  refine DE.of (pe_slice (sl_list.or sl_tupA) ha h1 h2) fun σ H Q ι fr S s f h => ⟨ι, fr, S, s, f, h.bnd.imp (fun x S1 ι1 H1 m1 s1 h1 v r1 => ?_) fun _ _ _ _ _ _ z => z⟩
  refine ⟨ι1, fr, S1, s1, m1.fr f, h1.bnd.imp (fun lo S2 ι2 H2 m2 s2 h2 => ?_) fun _ _ _ _ _ _ z => z⟩
  refine ⟨ι2, fr, S2, s2, (m1.trans m2).fr f, h2.bnd.imp (fun hi S3 ι3 H3 m3 s3 h3 => ?_) fun _ _ _ _ _ _ z => z⟩
  have r3 := (m2.trans m3).rp r1
  unfold sliD at h3
  split at h3
  · rename_i l
    obtain ⟨p, vs, rfl, hq, rs⟩ := r3
    refine .inr ⟨p, vs, rfl, .of hq, fun w => ?_, fun _ q hn => nw_tup s3 (cut_rps rs) h3 q hn⟩
    rw [← rs.length] at w
    rw [cut_whole w] at h3
    exact .inl (h3.ok s3 _ ⟨p, vs, rfl, hq, rs⟩)
  · split at h3
    · rename_i l hl
      obtain ⟨p, vs, rfl, hq, rs⟩ := lst_at s3 r3 hl
      exact .inl ⟨p, vs, rfl, hq, fz_list s3 (cut_rps rs) h3⟩
    · exact h3.bad
theorem DE_sliO (ha : DE X W fa a) (h1 : DO X W f1 o1) (h2 : DO X W f2 o2) : DE X W (sliF sliO fa f1 f2) (.Subscript a (.Slice o1 o2 none p2) pos) := by
  refine DE.of (pe_slice sl_list ha h1 h2) fun σ H Q ι fr S s f h => ⟨ι, fr, S, s, f, h.bnd.imp (fun x S1 ι1 H1 m1 s1 h1 v r1 => ?_) fun _ _ _ _ _ _ z => z⟩
  refine ⟨ι1, fr, S1, s1, m1.fr f, h1.bnd.imp (fun lo S2 ι2 H2 m2 s2 h2 => ?_) fun _ _ _ _ _ _ z => z⟩
  refine ⟨ι2, fr, S2, s2, (m1.trans m2).fr f, h2.bnd.imp (fun hi S3 ι3 H3 m3 s3 h3 => ?_) fun _ _ _ _ _ _ z => z⟩
  have r3 := (m2.trans m3).rp r1
  unfold sliO at h3
  split at h3
  · rename_i l hl
    obtain ⟨p, vs, rfl, hq, rs⟩ := lst_at s3 r3 hl
    exact ⟨p, vs, rfl, hq, ob_list s3 (cut_rps rs) h3⟩
  · exact h3.bad

/-! ### built-ins by name -/
def CalD (X : Cx) (W : WE) (f : Value) (g : List D → M D) : Prop :=
  ∃ r, CallR X f r ∧ ∀ ι S H σ xs vs Q, SR X.K X.mg ι S H → Rps X.K ι H xs vs → Po X.K X.mg ι H (g xs S) (kE X.K Q) (kX X.K X.mg W σ) → r vs H (Fz Q)
theorem DE_blt {id : String} {x : Str} {g : List D → M D} {p : Pos} (hc : CalD X W (.builtin id) g) (hg : Gl X x) (hm : X.mg x = none) (hv : bootBuiltins x = some (.builtin id)) (ha : DA X W (seqA fs) (e :: es)) (hn : x ≠ "__name__" := by decide) (hdb : (x == ("__debug__" : Str)) = false := by decide)
    (he : starEach (e :: es) X.env = (false, eval e X.env) :: starEach es X.env := by rfl) (hpl : (backTo pos (starEach es X.env)).any (·.1) = false := by rfl) : DE X W (calF g fs) (.Call (.Name x p) (e :: es) [] pos) := by
  obtain ⟨r, h1, h2⟩ := hc
  refine DE.of (pe_callB h1 hg hm hv ha hn hdb he hpl) fun σ H Q ι fr S s f h => ?_
  exact ⟨ι, fr, S, s, f, h.bnd.imp (fun xs S1 ι1 H1 m1 s1 q1 vs r1 => h2 ι1 S1 H1 σ xs vs Q s1 r1 q1) fun _ _ _ _ _ _ z => z⟩
theorem DE_typ {id : String} {x : Str} {g : List D → M D} {p : Pos} (hc : CalD X W (.type id) g) (hg : Gl X x) (hm : X.mg x = none) (hv : bootBuiltins x = some (.type id)) (ha : DA X W (seqA fs) (e :: es)) (hn : x ≠ "__name__" := by decide) (hdb : (x == ("__debug__" : Str)) = false := by decide)
    (he : starEach (e :: es) X.env = (false, eval e X.env) :: starEach es X.env := by rfl) (hpl : (backTo pos (starEach es X.env)).any (·.1) = false := by rfl) : DE X W (calF g fs) (.Call (.Name x p) (e :: es) [] pos) := by
  obtain ⟨r, h1, h2⟩ := hc
  refine DE.of (pe_callTy h1 hg hm hv ha hn hdb he hpl) fun σ H Q ι fr S s f h => ?_
  exact ⟨ι, fr, S, s, f, h.bnd.imp (fun xs S1 ι1 H1 m1 s1 q1 vs r1 => h2 ι1 S1 H1 σ xs vs Q s1 r1 q1) fun _ _ _ _ _ _ z => z⟩
end
end DL
namespace DL
open PySem PySem.Spec PyProof.Rows L2
open SeqAt (shaped)

inductive RS where
  | ok (fl : Fl) (fr : Frame) (S : Store) | err (x : Exc) (fr : Frame) (S : Store) | bad
abbrev SM := Frame → Store → RS
def exS {α : Type} (r : R α) (fr : Frame) (k : α → Store → RS) : RS := match r with
  | .ok a S => k a S
  | .err x S => .err x fr S
  | .bad => .bad
@[simp] theorem exS_ok {α : Type} (a : α) (S : Store) (fr : Frame) (k : α → Store → RS) : exS (.ok a S) fr k = k a S := rfl
def asgF (i : Nat) (f : Frame → M D) : SM := fun fr S => exS (f fr S) fr fun d S' => .ok .nx (fr.set i (some d)) S'
def retF (f : Frame → M D) : SM := fun fr S => exS (f fr S) fr fun d S' => .ok (.rt d) fr S'
def retN : SM := fun fr S => .ok (.rt .non) fr S
def exprF (f : Frame → M D) : SM := fun fr S => exS (f fr S) fr fun _ S' => .ok .nx fr S'
def nxF : SM := fun fr S => .ok .nx fr S
def bkF : SM := fun fr S => .ok .bk fr S
def ctF : SM := fun fr S => .ok .ct fr S
def badS : SM := fun _ _ => .bad
def seqS (f g : SM) : SM := fun fr S => match f fr S with
  | .ok .nx fr' S' => g fr' S'
  | r => r
def ifS (c : Frame → M Bool) (f g : SM) : SM := fun fr S => exS (c fr S) fr fun b S' => match b with
  | true => f fr S'
  | false => g fr S'
section
variable (K : PySem.W.Frag) (mg : Str → Option Value) (W : WE)
def kF (D : Ends) : Fl → List Addr → L2.St → Hp → Prop
  | .nx, _, σ, H => D.nx σ H
  | .bk, _, σ, H => D.bk σ H
  | .ct, _, σ, H => D.ct σ H
  | .rt d, ι, _, H => ∀ v, Rp K ι H d v → D.rt v H
def PoS (ι : List Addr) (H : Hp) (r : RS) (D : Ends) : Prop := match r with
  | .ok fl fr S' => ∀ ι' σ' H', Mn ι H ι' H' → SR K mg ι' S' H' → FR K ι' fr σ' H' → kF K D fl ι' σ' H'
  | .err x fr S' => ∀ ι' σ' H', Mn ι H ι' H' → SR K mg ι' S' H' → FR K ι' fr σ' H' → ∀ c d, XR K mg ι' H' x c d → W c d σ' H'
  | .bad => False
def trS (f : SM) : TS := fun D σ H => ∃ ι fr S, SR K mg ι S H ∧ FR K ι fr σ H ∧ PoS K mg W ι H (f fr S) D
end
def DS (X : Cx) (W : WE) (f : SM) (st : Stmt) : Prop := PS X st (trS X.K X.mg W f)
def DSs (X : Cx) (W : WE) (f : SM) (st : List Stmt) : Prop := PSs X st (trS X.K X.mg W f)
section
variable {K : PySem.W.Frag} {mg : Str → Option Value} {W : WE} {ι ι' : List Addr} {H H' : Hp}
theorem PoS.from {r : RS} {D : Ends} (m : Mn ι H ι' H') (h : PoS K mg W ι H r D) : PoS K mg W ι' H' r D := by
  cases r with
  | ok a fr S => exact fun ι2 σ2 H2 m2 => h ι2 σ2 H2 (m.trans m2)
  | err x fr S => exact fun ι2 σ2 H2 m2 => h ι2 σ2 H2 (m.trans m2)
  | bad => exact h
theorem PoS.ex {α : Type} {r : R α} {fr : Frame} {k : α → Store → RS} {D : Ends} {σ : L2.St} (f : FR K ι fr σ H) (h : PoS K mg W ι H (exS r fr k) D) :
    Po K mg ι H r (fun a S1 ι1 H1 => PoS K mg W ι1 H1 (k a S1) D) (kX K mg W σ) := by
  cases r with
  | ok a S => exact fun ι1 H1 m1 s1 => PoS.from m1 h
  | err x S => exact fun ι1 H1 m1 s1 => h ι1 σ H1 m1 s1 (m1.fr f)
  | bad => exact h
theorem PoS.exE {α : Type} {r : R α} {fr : Frame} {k : α → Store → RS} {D : Ends} {σ : L2.St} (f : FR K ι fr σ H) (h : PoS K mg W ι H (exS r fr k) D) :
    Po K mg ι H r (fun a S1 ι1 H1 => r = .ok a S1 ∧ PoS K mg W ι1 H1 (k a S1) D) (kX K mg W σ) := by
  cases r with
  | ok a S => exact fun ι1 H1 m1 s1 => ⟨rfl, PoS.from m1 h⟩
  | err x S => exact fun ι1 H1 m1 s1 => h ι1 σ H1 m1 s1 (m1.fr f)
  | bad => exact h
theorem PoS.ok {fl : Fl} {fr : Frame} {S : Store} {D : Ends} {σ : L2.St} (h : PoS K mg W ι H (.ok fl fr S) D) (s : SR K mg ι S H) (f : FR K ι fr σ H) : kF K D fl ι σ H := h ι σ H Mn.refl s f
theorem FR.set {fr : Frame} {σ : L2.St} {i : Nat} {d : D} {v : V} (f : FR K ι fr σ H) (r : Rp K ι H d v) : FR K ι (fr.set i (some d)) (σ.set i (some v)) H := by
  refine ⟨by simp [f.1], fun j x e => ?_⟩
  by_cases h : i = j
  · subst h
    have hl : i < fr.length := by
      have := (List.getElem?_eq_some_iff.mp e).1
      simpa using this
    rw [List.getElem?_set_self hl] at e
    cases e
    exact ⟨v, List.getElem?_set_self (by rw [← f.1]; exact hl), r⟩
  · rw [List.getElem?_set_ne h] at e ⊢
    exact f.2 j x e
end
section
variable {X : Cx} {W : WE} {st : Stmt} {sts rest : List Stmt} {e c : Expr} {pos : Pos} {f g : SM} {fe : Frame → M D} {ft : Frame → M Bool}
theorem DS.of {t : TS} {f : SM} (h : PS X st t) (hm : ∀ D σ H ι fr S, SR X.K X.mg ι S H → FR X.K ι fr σ H → PoS X.K X.mg W ι H (f fr S) D → t D σ H) : DS X W f st :=
  ⟨fun pins s σ H D I ⟨ι, fr, S, h1, h2, h3⟩ => h.run pins s σ H D I (hm D σ H ι fr S h1 h2 h3)⟩
theorem DSs.of {t : TS} {f : SM} (h : PSs X sts t) (hm : ∀ D σ H ι fr S, SR X.K X.mg ι S H → FR X.K ι fr σ H → PoS X.K X.mg W ι H (f fr S) D → t D σ H) : DSs X W f sts :=
  ⟨fun pins s σ H D I ⟨ι, fr, S, h1, h2, h3⟩ => h.run pins s σ H D I (hm D σ H ι fr S h1 h2 h3)⟩
theorem DSs_nil : DSs X W nxF [] := DSs.of pss_nil fun D σ H ι fr S s f h => h.ok s f
theorem DSs_one (h : DS X W f st) : DSs X W f [st] := pss_one h
theorem DSs_cons (h1 : DS X W f st) (h2 : DSs X W g rest) : DSs X W (seqS f g) (st :: rest) := by
  refine DSs.of (pss_cons h1 h2) fun D σ H ι fr S s fr' h => ⟨ι, fr, S, s, fr', ?_⟩
  unfold seqS at h
  cases q : f fr S with
  | ok fl fr1 S1 =>
    cases fl with
    | nx => rw [q] at h; exact fun ι1 σ1 H1 m1 s1 f1 => ⟨ι1, fr1, S1, s1, f1, PoS.from m1 h⟩
    | rt d => rw [q] at h; exact fun ι1 σ1 H1 m1 s1 f1 => h ι1 σ1 H1 m1 s1 f1
    | bk => rw [q] at h; exact fun ι1 σ1 H1 m1 s1 f1 => h ι1 σ1 H1 m1 s1 f1
    | ct => rw [q] at h; exact fun ι1 σ1 H1 m1 s1 f1 => h ι1 σ1 H1 m1 s1 f1
  | err x fr1 S1 => rw [q] at h; exact h
  | bad => rw [q] at h; exact h
theorem DS_pass : DS X W nxF (.Pass pos) := DS.of ps_pass fun D σ H ι fr S s f h => h.ok s f
theorem DS_break : DS X W bkF (.Break pos) := DS.of ps_break fun D σ H ι fr S s f h => h.ok s f
theorem DS_continue : DS X W ctF (.Continue pos) := DS.of ps_continue fun D σ H ι fr S s f h => h.ok s f
theorem DS_never : DS X W badS st := DS.of ps_never fun D σ H ι fr S s f h => h
theorem DS_doc {x j pos pos'} : DS X W nxF (.Expr (.Constant (.str x) j pos) pos') := DS.of ps_doc fun D σ H ι fr S s f h => h.ok s f
theorem DS_expr (he : DE X W fe e) (hs : swapsWith e none pos.line X.env = pure false := by rfl) : DS X W (exprF fe) (.Expr e pos) :=
  DS.of (ps_expr he hs) fun D σ H ι fr S s f h => ⟨ι, fr, S, s, f, (h.ex f).imp (fun d S1 ι1 H1 m1 s1 h1 v r1 => h1.ok s1 (m1.fr f)) fun _ _ _ _ _ _ z => z⟩
theorem DS_ret (he : DE X W fe e) : DS X W (retF fe) (.Return (some e) pos) :=
  DS.of (ps_ret he) fun D σ H ι fr S s f h => ⟨ι, fr, S, s, f, (h.ex f).imp (fun d S1 ι1 H1 m1 s1 h1 v r1 => h1.ok s1 (m1.fr f) v r1) fun _ _ _ _ _ _ z => z⟩
theorem DS_retN : DS X W retN (.Return none pos) := DS.of ps_retN fun D σ H ι fr S s f h => h.ok s f _ rfl
theorem DS_if {a b : List Stmt} (hc : DT X W ft c) (ha : DSs X W f a) (hb : DSs X W g b) : DS X W (ifS ft f g) (.If c a b pos) := by
  refine DS.of (ps_if hc ha hb) fun D σ H ι fr S s f h => ⟨ι, fr, S, s, f, (h.ex f).imp (fun d S1 ι1 H1 m1 s1 h1 => ?_) fun _ _ _ _ _ _ z => z⟩
  cases d with
  | true => exact (if_pos rfl).mpr ⟨ι1, fr, S1, s1, m1.fr f, h1⟩
  | false => exact (if_neg Bool.false_ne_true).mpr ⟨ι1, fr, S1, s1, m1.fr f, h1⟩
theorem DS_set {i : Nat} {x : Str} {pos' : Pos} (hN : X.N.Nodup) (hi : X.N[i]? = some x) (hx : Loc X.env.scope x) (he : DE X W fe e) (hs : swapsWith e (some (.Name x pos')) pos.line X.env = pure false := by rfl)
    (hf : X.fn x = true ∨ X.env.scope.names.lookup x = some .local := by first | exact .inl rfl | exact .inr rfl | assumption) : DS X W (asgF i fe) (.Assign [.Name x pos'] e pos) :=
  DS.of (ps_set hN hi hx he hs hf) fun D σ H ι fr S s f h => ⟨ι, fr, S, s, f, (h.ex f).imp (fun d S1 ι1 H1 m1 s1 h1 v r1 => h1.ok s1 (FR.set (m1.fr f) r1)) fun _ _ _ _ _ _ z => z⟩

/-! ### targets -/
def tgName (i : Nat) : D → Frame → M Frame := fun d fr => ret (fr.set i (some d))
def tgAll : List (D → Frame → M Frame) → List D → Frame → M Frame
  | [], [], fr => ret fr
  | g :: gs, d :: ds, fr => bnd (g d fr) fun fr1 => tgAll gs ds fr1
  | _, _, _ => bad
def tgTup (gs : List (D → Frame → M Frame)) : D → Frame → M Frame := fun d fr => match d with
  | .tup l => if l.length = gs.length then tgAll gs l fr else bad
  | _ => bad
/-- only the slots ts are stored -/
def Tch (ts : List Nat) (σ σ' : L2.St) : Prop := σ'.length = σ.length ∧ ∀ j, j ∉ ts → σ'[j]? = σ[j]?
abbrev kG (K : PySem.W.Frag) (ts : List Nat) (σ : L2.St) (Q : L2.St → Hp → Prop) : Frame → Store → List Addr → Hp → Prop := fun fr' _ ι' H' => ∀ σ', FR K ι' fr' σ' H' → Tch ts σ σ' → Q σ' H'
def trG (K : PySem.W.Frag) (mg : Str → Option Value) (ts : List Nat) (g : D → Frame → M Frame) : TG := fun v σ H Q => ∃ ι fr S d, SR K mg ι S H ∧ FR K ι fr σ H ∧ Rp K ι H d v ∧ Po K mg ι H (g d fr S) (kG K ts σ Q) (fun _ _ _ _ => False)
def DG (X : Cx) (ts : List Nat) (g : D → Frame → M Frame) (tg : Expr) : Prop := PG X tg (trG X.K X.mg ts g)
def DGs (X : Cx) (ts : List Nat) (gs : List (D → Frame → M Frame)) (tg : List Expr) : Prop := PGs X tg (fun v σ H Q => ∃ ι fr S d, SR X.K X.mg ι S H ∧ FR X.K ι fr σ H ∧ Rps X.K ι H d v ∧ Po X.K X.mg ι H (tgAll gs d fr S) (kG X.K ts σ Q) (fun _ _ _ _ => False))
theorem Tch.refl {σ : L2.St} : Tch [] σ σ := ⟨rfl, fun _ _ => rfl⟩
theorem Tch.trans {ts us : List Nat} {σ σ1 σ2 : L2.St} (a : Tch ts σ σ1) (b : Tch us σ1 σ2) : Tch (ts ++ us) σ σ2 :=
  ⟨b.1.trans a.1, fun j h => (b.2 j fun z => h (List.mem_append_right _ z)).trans (a.2 j fun z => h (List.mem_append_left _ z))⟩
theorem Tch.set {i : Nat} {σ : L2.St} {x : Option V} : Tch [i] σ (σ.set i x) := ⟨by simp, fun j h => List.getElem?_set_ne (fun z => h (by simp [z]))⟩
theorem DG_name {i : Nat} {x : Str} (hN : X.N.Nodup) (hi : X.N[i]? = some x) (hx : Loc X.env.scope x) (hf : X.fn x = true ∨ X.env.scope.names.lookup x = some .local := by first | exact .inl rfl | exact .inr rfl | assumption) : DG X [i] (tgName i) (.Name x pos) := by
  refine ⟨fun pins s σ H v u Q I r h => ?_⟩
  obtain ⟨ι, fr, S, d, hS, hF, hr, h⟩ := h
  exact (pg_name hN hi hx hf).run pins s σ H v u Q I r (h.ok hS _ (hF.set hr) Tch.set)
theorem DGs_nil : DGs X [] [] [] := by
  refine ⟨fun pins s σ H v u Q I r h => ?_⟩
  obtain ⟨ι, fr, S, d, hS, hF, hr, h⟩ := h
  cases d with
  | nil => cases hr; exact pgs_nil.run pins s σ H _ u Q I r ⟨rfl, h.ok hS _ hF Tch.refl⟩
  | cons _ _ => exact h.bad
theorem DGs_cons {t : Expr} {ts : List Expr} {n m : List Nat} {g : D → Frame → M Frame} {gs : List (D → Frame → M Frame)} (h1 : DG X n g t) (h2 : DGs X m gs ts)
    (hs : (assignEach (t :: ts) X.env).map (·.2) = assign t X.env :: (assignEach ts X.env).map (·.2) := by rfl) : DGs X (n ++ m) (g :: gs) (t :: ts) := by
  refine ⟨fun pins s σ H v u Q I r h => ?_⟩
  obtain ⟨ι, fr, S, d, hS, hF, hr, h⟩ := h
  cases d with
  | nil => exact h.bad
  | cons d ds =>
    obtain ⟨v1, vr, rfl, r1, r2⟩ := hr
    refine (pgs_cons h1 h2 hs).run pins s σ H _ u Q I r ⟨v1, vr, rfl, ι, fr, S, d, hS, hF, r1, ?_⟩
    have h' : Po X.K X.mg ι H (bnd (g d fr) (fun fr1 => tgAll gs ds fr1) S) (kG X.K (n ++ m) σ Q) (fun _ _ _ _ => False) := h
    exact h'.bnd.imp (fun fr1 S1 ι1 H1 m1 s1 q σ1 f1 t1 => ⟨ι1, fr1, S1, ds, s1, f1, m1.rps r2, q.imp (fun fr2 S2 ι2 H2 m2 s2 w σ2 f2 t2 => w σ2 f2 (t1.trans t2)) fun _ _ _ _ _ _ z => z⟩) fun _ _ _ _ _ _ z => z
theorem DG_tup {ts : List Expr} {k : Nat} {n : List Nat} {gs : List (D → Frame → M Frame)} (hc : X.calm = true) (h : DGs X n gs ts) (hl : ts.length = gs.length := by rfl)
    (hn : (assignEach ts X.env).length = ts.length := by rfl) (hst : (assignEach ts X.env).findIdx? (·.1) = none := by rfl) : DG X n (tgTup gs) (.Tuple ts k pos) := by
  refine ⟨fun pins s σ H v u Q I r h' => ?_⟩
  obtain ⟨ι, fr, S, d, hS, hF, hr, h'⟩ := h'
  cases d with
  | tup l =>
    obtain ⟨a, vs, rfl, ha, rs⟩ := hr
    have h2 : Po X.K X.mg ι H ((if l.length = gs.length then tgAll gs l fr else bad) S) (kG X.K n σ Q) (fun _ _ _ _ => False) := h'
    split at h2
    · rename_i hlen
      exact (pg_tup hc h hn hst).run pins s σ H _ u Q I r ⟨a, vs, rfl, .of ha, by rw [← rs.length, hlen, hl], ι, fr, S, l, hS, hF, rs, h2⟩
    · exact h2.bad
  | _ => exact h'.bad
/-- target = value -/
def asgG (g : D → Frame → M Frame) (f : Frame → M D) : SM := fun fr S => exS (f fr S) fr fun d S1 => match g d fr S1 with
  | .ok fr' S' => .ok .nx fr' S'
  | _ => .bad
theorem DS_asg {tg : Expr} {n : List Nat} {g : D → Frame → M Frame} (he : DE X W fe e) (hg : DG X n g tg) (hs : swapsWithSole [tg] e pos.line X.env = pure false := by rfl) (hw : swappedStores [tg] e X.env = pure none := by rfl)
    (h1 : (assignEach [tg] X.env).map (·.2) = [assign tg X.env] := by rfl) : DS X W (asgG g fe) (.Assign [tg] e pos) := by
  refine DS.of (ps_asg he hg hs hw h1) fun D σ H ι fr S s f h => ⟨ι, fr, S, s, f, (h.ex f).imp (fun d S1 ι1 H1 m1 s1 h1 v r1 => ?_) fun _ _ _ _ _ _ z => z⟩
  refine ⟨ι1, fr, S1, d, s1, m1.fr f, r1, ?_⟩
  split at h1
  · rename_i fr' S' e
    rw [e]
    exact fun ι2 H2 m2 s2 σ2 f2 _ => h1 ι2 σ2 H2 m2 s2 f2
  · exact h1.elim

/-! ### loops -/
abbrev Src := Store → Option (List D)
/-- what a loop walks, on data -/
structure ItD (K : PySem.W.Frag) (mg : Str → Option Value) (J : It) (A : List Addr → Hp → Prop) (src : Src) : Prop where
  mono : ∀ ι H ι' H', Mw ι H ι' H' → A ι H → A ι' H'
  stop : ∀ (ι : List Addr) (S : Store) (H : Hp) (xs : List D) (i : Nat), SR K mg ι S H → A ι H → src S = some xs → xs.length ≤ i → J.stop i H
  go : ∀ (ι : List Addr) (S : Store) (H : Hp) (xs : List D) (i : Nat) (x : D), SR K mg ι S H → A ι H → src S = some xs → xs[i]? = some x → J.go i H
  yld : ∀ (ι : List Addr) (S : Store) (H : Hp) (xs : List D) (i : Nat) (x : D) (v : V) (H' : Hp), SR K mg ι S H → A ι H → src S = some xs → xs[i]? = some x → J.yld i H v H' → Mn ι H ι H' ∧ SR K mg ι S H' ∧ Rp K ι H' x v
def DI (X : Cx) (W : WE) (f : Frame → M Src) (tg iter : Expr) : Prop :=
  ∃ wi, PI X tg iter wi ∧ ∀ σ H ι fr S (R : It → Hp → Prop), SR X.K X.mg ι S H → FR X.K ι fr σ H → Po X.K X.mg ι H (f fr S) (fun src _ ι' H' => ∀ J A, ItD X.K X.mg J A src → A ι' H' → R J H') (kX X.K X.mg W σ) → wi σ H R
open Classical in
noncomputable def forL (src : Src) (xs : List D) (g : D → Frame → M Frame) (body : SM) : List D → SM
  | [], fr, S => if src S = some xs then .ok .nx fr S else .bad
  | x :: r, fr, S => if src S = some xs then (match g x fr S with
      | .ok fr1 S1 => (match body fr1 S1 with
        | .ok .nx fr2 S2 => forL src xs g body r fr2 S2
        | .ok .ct fr2 S2 => forL src xs g body r fr2 S2
        | .ok .bk fr2 S2 => .ok .nx fr2 S2
        | q => q)
      | _ => .bad)
    else .bad
noncomputable def forF (f : Frame → M Src) (g : D → Frame → M Frame) (body : SM) : SM := fun fr S => exS (f fr S) fr fun src S1 => match src S1 with
  | some xs => forL src xs g body xs fr S1
  | none => .bad
theorem DS_for {tg iter : Expr} {body : List Stmt} {fi : Frame → M Src} {n : List Nat} {g : D → Frame → M Frame} (hp : PassesOwn (model X.prog X.w) X.A X.env X.xe) (hc : X.calm = true) (hi : DI X W fi tg iter) (hg : DG X n g tg) (hb : DSs X W f body)
    (hs : ∀ x, foldedSetIterable iter X.env x = pure x := by intro _; rfl) : DS X W (forF fi g f) (.For tg iter body [] pos) := by
  obtain ⟨wi, h1, h2⟩ := hi
  refine DS.of (ps_for hp hc h1 hg hb hs) fun D σ H ι fr S s fr' h => h2 σ H ι fr S _ s fr' ((h.ex fr').imp (fun src S1 ι1 H1 m1 s1 q J A T a => ?_) fun _ _ _ _ _ _ z => z)
  cases hx : src S1 with
  | none => rw [hx] at q; exact q.elim
  | some xs =>
    rw [hx] at q
    refine ⟨fun i m σ H => m = xs.length - i ∧ ∃ ι fr S, A ι H ∧ SR X.K X.mg ι S H ∧ FR X.K ι fr σ H ∧ PoS X.K X.mg W ι H (forL src xs g f (xs.drop i) fr S) D, ⟨_, rfl, ι1, fr, S1, a, s1, m1.fr fr', by simpa using q⟩, ?_⟩
    rintro i m σ2 H2 ⟨rfl, ι2, fr2, S2, a2, s2, f2, q2⟩
    by_cases hi : i < xs.length
    · rw [List.drop_eq_getElem_cons hi] at q2
      unfold forL at q2
      split at q2
      · rename_i hsrc
        have hxi : xs[i]? = some xs[i] := List.getElem?_eq_getElem hi
        refine .inr ⟨T.go ι2 S2 H2 xs i _ s2 a2 hsrc hxi, fun σ3 H3 => ∃ ι3 fr3 S3, A ι3 H3 ∧ SR X.K X.mg ι3 S3 H3 ∧ FR X.K ι3 fr3 σ3 H3 ∧ PoS X.K X.mg W ι3 H3 (forL src xs g f (xs.drop (i + 1)) fr3 S3) D,
          fun σ3 H3 w => ⟨_, by omega, rfl, w⟩, fun x H3 hy => ?_⟩
        obtain ⟨m3, s3, r3⟩ := T.yld ι2 S2 H2 xs i _ x H3 s2 a2 hsrc hxi hy
        cases eg : g xs[i] fr2 S2 with
        | ok fr4 S4 =>
          rw [eg] at q2
          refine ⟨ι2, fr2, S2, _, s3, m3.fr f2, r3, ?_⟩
          rw [eg]
          refine fun ι4 H4 m4 s4 σ4 f4 _ => ⟨ι4, fr4, S4, s4, f4, ?_⟩
          have a4 : A ι4 H4 := T.mono _ _ _ _ (m3.trans m4).w a2
          have q4 := PoS.from (m3.trans m4) q2
          cases e : f fr4 S4 with
          | ok fl fr5 S5 =>
            simp only [e] at q4
            cases fl with
            | nx => exact fun ι5 σ5 H5 m5 s5 f5 => ⟨ι5, fr5, S5, T.mono _ _ _ _ m5.w a4, s5, f5, PoS.from m5 q4⟩
            | ct => exact fun ι5 σ5 H5 m5 s5 f5 => ⟨ι5, fr5, S5, T.mono _ _ _ _ m5.w a4, s5, f5, PoS.from m5 q4⟩
            | bk => exact fun ι5 σ5 H5 m5 s5 f5 => q4 ι5 σ5 H5 m5 s5 f5
            | rt d => exact fun ι5 σ5 H5 m5 s5 f5 => q4 ι5 σ5 H5 m5 s5 f5
          | err x fr5 S5 => simp only [e] at q4; exact q4
          | bad => simp only [e] at q4; exact q4
        | err x S4 => rw [eg] at q2; exact q2.elim
        | bad => rw [eg] at q2; exact q2.elim
      · exact q2.elim
    · rw [List.drop_eq_nil_of_le (by omega)] at q2
      unfold forL at q2
      split at q2
      · rename_i hsrc
        exact .inl ⟨T.stop ι2 S2 H2 xs i s2 a2 hsrc (by omega), q2.ok s2 f2⟩
      · exact q2.elim
end
end DL
namespace DL
open PySem PySem.Spec PyProof.Rows L2
open SeqAt (shaped)
section
variable {X : Cx} {W : WE} {a b c e tg : Expr} {pos : Pos} {fa fb fc : Frame → M D} {ι : List Addr} {H : Hp} {σ : L2.St} {s : Shared} {pins : List (Addr × Obj)}
/-- iter of a list or a tuple that is read -/
theorem it_seq {R : It → Hp → Prop} {p : Addr} {vs : List V} {E : Value → Shared → Prop} (I : Inv X pins σ H s) (h : (SqL X.K H p vs ∧ R (Itl X.K p) H) ∨ (SqT X.K H p vs ∧ R (Itt X.K p) H)) :
    wpAny (model X.prog X.w) X.A (pyIter (.ref p)) (PIE X pins σ tg R) E s := by
  have new : ∀ b ∈ [s.heap.objs.size], FpOk X pins H b := fun b hb => by
    obtain rfl : b = s.heap.objs.size := by simpa using hb
    exact I.fpOk (Nat.le_refl _) (I.hok.fresh (Nat.le_refl _))
  rcases h with ⟨h, q⟩ | ⟨h, q⟩
  · obtain ⟨us, _, P, _⟩ := I.list h
    exact wpAny_pyIter_list P.isList ⟨_, _, _, _, H, rfl, I.kept (t' := s.toks) (fun _ _ z => Heap.get?_push_of_some _ z), turn_list p _, ⟨_, Heap.get?_push_size _ rfl, rfl, rfl⟩, new, q⟩
  · obtain ⟨us, _, P, _⟩ := I.tuple h
    exact wpAny_pyIter_tuple (show s.heap.IsTuple p us.toArray from P) ⟨_, _, _, _, H, rfl, I.kept (t' := s.toks) (fun _ _ z => Heap.get?_push_of_some _ z), turn_tuple p _, ⟨_, Heap.get?_push_size _ rfl, rfl, rfl⟩, new, q⟩
def iSeq (K : PySem.W.Frag) (tl : TE) : TI := fun σ H R => tl σ H fun x H1 => ∃ p vs, x = .ref p ∧ ((SqL K H1 p vs ∧ R (Itl K p) H1) ∨ (SqT K H1 p vs ∧ R (Itt K p) H1))
theorem pi_seq {tl : TE} (hl : PE X e tl) : PI X tg e (iSeq X.K tl) := by
  refine ⟨fun pins s σ H R I h => thn (hl.run pins s σ H _ I h) fun v s1 q => ?_⟩
  obtain ⟨x, H1, I1, r1, p, vs, rfl, h1⟩ := q
  obtain rfl : v = Value.ref p := r1
  exact it_seq I1 h1
/-- a list or a tuple, by its value -/
def srcSeq (d : D) : Src := fun S => seqL S d
theorem ItD_list {p : Addr} {d : D} (hd : ∀ l, d ≠ .tup l ∧ d ≠ .ctu l ∧ d ≠ .ptu l) : ItD X.K X.mg (Itl X.K p) (fun ι H => Rp X.K ι H d (.ref p)) (srcSeq d) := by
  have at_ : ∀ ι S H xs, SR X.K X.mg ι S H → Rp X.K ι H d (.ref p) → srcSeq d S = some xs → ∃ vs, SqL X.K H p vs ∧ Rps X.K ι H xs vs := fun ι S H xs s r h => by
    have h' : lstL S d = some xs := by
      cases d with
      | tup l => exact absurd rfl (hd l).1
      | ctu l => exact absurd rfl (hd l).2.1
      | ptu l => exact absurd rfl (hd l).2.2
      | _ => exact h
    obtain ⟨a, vs, e, h1, h2⟩ := lst_at s r h'
    cases e
    exact ⟨vs, h1, h2⟩
  refine ⟨fun _ _ _ _ m r => m.rp r, fun ι S H xs i s r h hl => ?_, fun ι S H xs i x s r h hx => ?_, fun ι S H xs i x v H' s r h hx hy => ?_⟩
  · obtain ⟨vs, h1, h2⟩ := at_ ι S H xs s r h
    exact ⟨vs, h1, by rw [← h2.length]; exact hl⟩
  · obtain ⟨vs, h1, h2⟩ := at_ ι S H xs s r h
    obtain ⟨v, hv, _⟩ := h2.get hx
    exact ⟨vs, v, h1, hv⟩
  · obtain ⟨vs, h1, h2⟩ := at_ ι S H xs s r h
    obtain ⟨u, hu, ru⟩ := h2.get hx
    obtain ⟨rfl, hy⟩ := hy
    have e := hy vs h1
    rw [hu] at e
    cases e
    exact ⟨Mn.refl, s, ru⟩
theorem ItD_tup {p : Addr} {l : List D} : ItD X.K X.mg (Itt X.K p) (fun ι H => ∃ vs, SqT X.K H p vs ∧ Rps X.K ι H l vs) (fun _ => some l) := by
  refine ⟨fun _ _ _ _ m ⟨vs, h1, h2⟩ => ⟨vs, m.sqT h1, m.rps h2⟩, fun ι S H xs i s ⟨vs, h1, h2⟩ h hl => ?_, fun ι S H xs i x s ⟨vs, h1, h2⟩ h hx => ?_, fun ι S H xs i x v H' s ⟨vs, h1, h2⟩ h hx hy => ?_⟩
  all_goals cases h
  · exact ⟨vs, h1, by rw [← h2.length]; exact hl⟩
  · obtain ⟨v, hv, _⟩ := h2.get hx
    exact ⟨vs, v, h1, hv⟩
  · obtain ⟨u, hu, ru⟩ := h2.get hx
    obtain ⟨rfl, hy⟩ := hy
    have e := hy vs h1
    rw [hu] at e
    cases e
    exact ⟨Mn.refl, s, ru⟩
def itF (f : Frame → M D) : Frame → M Src := fun fr => bnd (f fr) fun d => fun S => match seqL S d with
  | some _ => .ok (srcSeq d) S
  | none => .bad
theorem DI_seq (ha : DE X W fa e) : DI X W (itF fa) tg e := by
  refine ⟨_, pi_seq ha, fun σ H ι fr S R s f h => ⟨ι, fr, S, s, f, h.bnd.imp (fun d S1 ι1 H1 m1 s1 h1 v r1 => ?_) fun _ _ _ _ _ _ z => z⟩⟩
  split at h1
  · rename_i l hl
    have h2 := h1.ok s1
    by_cases hd : ∃ l, d = .tup l ∨ d = .ctu l ∨ d = .ptu l
    · obtain ⟨l', rfl | rfl | rfl⟩ := hd
      · obtain ⟨p, vs, rfl, hq, rs⟩ := r1
        exact ⟨p, vs, rfl, .inr ⟨.of hq, h2 _ _ ItD_tup ⟨vs, .of hq, rs⟩⟩⟩
      · obtain ⟨p, vs, rfl, hq, rs⟩ := r1
        exact ⟨p, vs, rfl, .inr ⟨hq, h2 _ _ ItD_tup ⟨vs, hq, rs⟩⟩⟩
      · obtain ⟨p, o, vs, rfl, hq, _, rs⟩ := r1
        exact ⟨p, vs, rfl, .inr ⟨.inl (.inr ⟨o, hq⟩), h2 _ _ ItD_tup ⟨vs, .inl (.inr ⟨o, hq⟩), rs⟩⟩⟩
    · have h' : lstL S1 d = some l := by
        cases d with
        | tup l' => exact absurd ⟨l', .inl rfl⟩ hd
        | ctu l' => exact absurd ⟨l', .inr (.inl rfl)⟩ hd
        | ptu l' => exact absurd ⟨l', .inr (.inr rfl)⟩ hd
        | _ => exact hl
      obtain ⟨p, vs, rfl, hq, rs⟩ := lst_at s1 r1 h'
      exact ⟨p, vs, rfl, .inl ⟨hq, h2 _ _ (ItD_list fun l => ⟨fun z => hd ⟨l, .inl z⟩, fun z => hd ⟨l, .inr (.inl z)⟩, fun z => hd ⟨l, .inr (.inr z)⟩⟩) r1⟩⟩
  · exact h1.bad
/-- a range -/
def rngL (lo : Int) (n : Nat) : List D := (List.range n).map fun i => .int (lo + (i : Nat))
theorem ItD_range {lo : Int} {n : Nat} : ItD X.K X.mg (Itr lo n) (fun _ _ => True) (fun _ => some (rngL lo n)) := by
  refine ⟨fun _ _ _ _ _ _ => trivial, fun ι S H xs i s _ h hl => ?_, fun ι S H xs i x s _ h hx => ?_, fun ι S H xs i x v H' s _ h hx hy => ?_⟩
  all_goals cases h
  · exact (show n ≤ i by simpa [rngL] using hl)
  · have := (List.getElem?_eq_some_iff.mp hx).1
    exact (show i < n by simpa [rngL] using this)
  · obtain ⟨rfl, rfl⟩ := hy
    refine ⟨Mn.refl, s, ?_⟩
    obtain ⟨h1, h2⟩ := List.getElem?_eq_some_iff.mp hx
    simp [rngL] at h2
    subst h2
    rfl
def rng1 (l : List D) : M Src := fun S => match l with
  | [.int j] => if -(2 ^ 62) ≤ j ∧ j < 2 ^ 62 then .ok (fun _ => some (rngL 0 j.toNat)) S else .bad
  | _ => .bad
def rng2 (l : List D) : M Src := fun S => match l with
  | [.int i, .int j] => if -(2 ^ 62) ≤ i ∧ i < 2 ^ 62 ∧ -(2 ^ 62) ≤ j ∧ j < 2 ^ 62 then .ok (fun _ => some (rngL i (j - i).toNat)) S else .bad
  | _ => .bad
def rngF (g : List D → M Src) (fs : List (Frame → M D)) : Frame → M Src := fun fr => bnd (seqA fs fr) g
theorem DI_range1 {p : Pos} {fs : List (Frame → M D)} (hg : Gl X "range") (hm : X.mg "range" = none) (ha : DA X W (seqA fs) [a]) (hs : starEach [a] X.env = [(false, eval a X.env)] := by rfl) : DI X W (rngF rng1 fs) tg (.Call (.Name "range" p) [a] [] pos) := by
  refine ⟨_, pi_range1 hg hm ha hs, fun σ H ι fr S R s f h => ⟨ι, fr, S, s, f, h.bnd.imp (fun l S1 ι1 H1 m1 s1 h1 vs r1 => ?_) fun _ _ _ _ _ _ z => z⟩⟩
  unfold rng1 at h1
  split at h1
  · rename_i j
    split at h1
    · rename_i hj
      obtain ⟨v, r, rfl, rv, rr⟩ := r1
      cases rv; cases rr
      exact ⟨j, rfl, hj.1, hj.2, h1.ok s1 _ _ ItD_range trivial⟩
    · exact h1.bad
  · exact h1.bad
theorem DI_range2 {p : Pos} {fs : List (Frame → M D)} (hg : Gl X "range") (hm : X.mg "range" = none) (ha : DA X W (seqA fs) [a, b]) (hs : starEach [a, b] X.env = [(false, eval a X.env), (false, eval b X.env)] := by rfl) (hs2 : starEach [b] X.env = [(false, eval b X.env)] := by rfl) :
    DI X W (rngF rng2 fs) tg (.Call (.Name "range" p) [a, b] [] pos) := by
  refine ⟨_, pi_range2 hg hm ha hs hs2, fun σ H ι fr S R s f h => ⟨ι, fr, S, s, f, h.bnd.imp (fun l S1 ι1 H1 m1 s1 h1 vs r1 => ?_) fun _ _ _ _ _ _ z => z⟩⟩
  unfold rng2 at h1
  split at h1
  · rename_i i j
    split at h1
    · rename_i hj
      obtain ⟨v, r, rfl, rv, v2, r2, rfl, rv2, rr⟩ := r1
      cases rv; cases rv2; cases rr
      exact ⟨i, j, rfl, hj, h1.ok s1 _ _ ItD_range trivial⟩
    · exact h1.bad
  · exact h1.bad
end

/-! ### comprehensions -/
def wipeF (fr : Frame) : List Nat → Frame
  | [] => fr
  | i :: r => (wipeF fr r).set i none
open Classical in
noncomputable def cmpL (src : Src) (xs : List D) (g : D → Frame → M Frame) (t : Frame → M Bool) (elt : Frame → M D) (fr : Frame) : List D → M (List D)
  | [] => fun S => if src S = some xs then .ok [] S else .bad
  | x :: r => fun S => if src S = some xs then (match g x fr S with
      | .ok fr1 S1 => (match t fr1 S1 with
        | .ok true S2 => (match elt fr1 S2 with
          | .ok y S3 => bnd (cmpL src xs g t elt fr r) (fun ys => ret (y :: ys)) S3
          | _ => .bad)
        | .ok false S2 => cmpL src xs g t elt fr r S2
        | _ => .bad)
      | _ => .bad) else .bad
/-- no exception leaves -/
def nox {α : Type} (m : M α) : M α := fun S => match m S with
  | .err _ _ => .bad
  | r => r
noncomputable def cmpF (vs : List Nat) (f : Frame → M Src) (g : D → Frame → M Frame) (t : Frame → M Bool) (elt : Frame → M D) : Frame → M (List D) := fun fr => bnd (f fr) fun src => fun S => match src S with
  | some xs => if xs.length ≤ sizeLine then nox (cmpL src xs g t elt (wipeF fr vs) xs) S else .bad
  | none => .bad
noncomputable def cmpD (vs : List Nat) (f : Frame → M Src) (g : D → Frame → M Frame) (t : Frame → M Bool) (elt : Frame → M D) : Frame → M D := fun fr => bnd (cmpF vs f g t elt fr) fun l => ret (.lst l)
noncomputable def cmpO (vs : List Nat) (f : Frame → M Src) (g : D → Frame → M Frame) (t : Frame → M Bool) (elt : Frame → M D) : Frame → M D := fun fr => bnd (cmpF vs f g t elt fr) fun l => newO (.lst l)
def yesF : Frame → M Bool := fun _ => ret true
def DTs (X : Cx) (W : WE) (f : Frame → M Bool) (es : List Expr) : Prop := PTs X es (trT X.K X.mg W f)
theorem DTs_nil {X : Cx} {W : WE} : DTs X W yesF [] := ⟨fun pins s σ H Q I ⟨ι, fr, S, hS, hF, h⟩ => pts_nil.run pins s σ H Q I (h.ok hS)⟩
theorem DTs_one {X : Cx} {W : WE} {f : Frame → M Bool} {c : Expr} (h : DT X W f c) : DTs X W f [c] := pts_one h
section
variable {K : PySem.W.Frag} {mg : Str → Option Value} {ι : List Addr} {H : Hp}
theorem wipe_FR {fr : Frame} {σ : L2.St} (f : FR K ι fr σ H) : ∀ vs, FR K ι (wipeF fr vs) (wipe σ vs) H
  | [] => f
  | i :: r => by
    obtain ⟨h1, h2⟩ := wipe_FR f r
    refine ⟨by simp [wipeF, wipe, h1], fun j d e => ?_⟩
    unfold wipeF at e
    unfold wipe
    by_cases hj : i = j
    · subst hj
      have hl := (List.getElem?_eq_some_iff.mp e).1
      rw [List.length_set] at hl
      rw [List.getElem?_set_self hl] at e
      cases e
    · rw [List.getElem?_set_ne hj] at e ⊢
      exact h2 j d e
theorem wipe_same {ts : List Nat} {σ σ' : L2.St} (t : Tch ts σ σ') : ∀ {vs : List Nat}, (∀ i ∈ ts, i ∈ vs) → wipe σ' vs = wipe σ vs := by
  have key : ∀ vs : List Nat, (wipe σ' vs).length = (wipe σ vs).length ∧ ∀ j, (wipe σ' vs)[j]? = if j ∈ vs ∧ j < σ.length then some none else σ'[j]? := by
    intro vs
    induction vs with
    | nil => exact ⟨t.1, fun j => by simp [wipe]⟩
    | cons v vs ih =>
      refine ⟨by simp [wipe, ih.1], fun j => ?_⟩
      unfold wipe
      rw [List.getElem?_set, ih.2 j]
      have hl : (wipe σ' vs).length = σ.length := by rw [wipe_length, t.1]
      by_cases h : v = j
      · subst h
        by_cases h2 : v < σ.length
        · simp [hl, h2]
        · simp [hl, h2]
          rw [t.1]; omega
      · have h3 : j ≠ v := Ne.symm h
        simp [h, h3]
  have key2 : ∀ vs : List Nat, ∀ j, (wipe σ vs)[j]? = if j ∈ vs ∧ j < σ.length then some none else σ[j]? := by
    intro vs
    induction vs with
    | nil => exact fun j => by simp [wipe]
    | cons v vs ih =>
      intro j
      unfold wipe
      rw [List.getElem?_set, ih j]
      have hl : (wipe σ vs).length = σ.length := wipe_length σ vs
      by_cases h : v = j
      · subst h
        by_cases h2 : v < σ.length
        · simp [hl, h2]
        · simp [hl, h2]
      · have h3 : j ≠ v := Ne.symm h
        simp [h, h3]
  intro vs hv
  apply List.ext_getElem?
  intro j
  rw [(key vs).2 j, key2 vs j]
  split
  · rfl
  · rename_i h
    by_cases hj : j ∈ vs
    · have : ¬ j < σ.length := fun z => h ⟨hj, z⟩
      rw [List.getElem?_eq_none_iff.mpr (by rw [t.1]; omega), List.getElem?_eq_none_iff.mpr (by omega)]
    · exact t.2 j fun z => hj (hv j z)
end
section
variable {X : Cx} {elt tg iter : Expr} {ifs : List Expr} {scope : Scope} {pos : Pos} {own : List (Str × Nat)} {fi : Frame → M Src} {g : D → Frame → M Frame} {ft : Frame → M Bool} {fe : Frame → M D} {ts : List Nat}
def W0 : WE := fun _ _ _ _ => False
theorem wipe_wipe {σ : L2.St} : ∀ vs : List Nat, wipe (wipe σ vs) vs = wipe σ vs := fun vs => wipe_same (ts := vs) (by
  refine ⟨wipe_length σ vs, fun j hj => ?_⟩
  exact wipe_out hj) fun i h => h
theorem lc_data {wi : TI} {W : WE} {σ : L2.St} {H : Hp} {ι : List Addr} {fr : Frame} {S : Store} {vs : List Nat} {Q : VK} {k : List D → Store → List Addr → Hp → Prop}
    (h2 : ∀ σ H ι fr S (R : It → Hp → Prop), SR X.K X.mg ι S H → FR X.K ι fr σ H → Po X.K X.mg ι H (fi fr S) (fun src _ ι' H' => ∀ J A, ItD X.K X.mg J A src → A ι' H' → R J H') (kX X.K X.mg W σ) → wi σ H R)
    (hts : ∀ i ∈ ts, i ∈ vs) (s : SR X.K X.mg ι S H) (f : FR X.K ι fr σ H) (h : Po X.K X.mg ι H (cmpF vs fi g ft fe fr S) k (kX X.K X.mg W σ))
    (hk : ∀ l S' ι0 H0 ι' H' p vv, Mn ι H ι0 H0 → Mn ι0 H0 ι' H' → H0 p = none → (∀ ι2 H2, Mn ι0 H0 ι2 H2 → SR X.K X.mg ι2 S' H2 → k l S' ι2 H2) → SR X.K X.mg ι' S' H' → H' p = some (.lst vv) → p ∉ ι' → Rps X.K ι' H' l vv → Q (.ref p) H') :
    tLc wi (trG X.K X.mg ts g) (trT X.K X.mg W0 ft) (trE X.K X.mg W0 fe) vs σ H Q := by
  refine h2 σ H ι fr S _ s f (h.bnd.imp (fun src S1 ι1 H1 m1 s1 q J A T a L hL => ?_) fun _ _ _ _ _ _ z => z)
  cases hx : src S1 with
  | none => rw [hx] at q; exact q.elim
  | some xs =>
    simp only [hx] at q
    split at q
    · rename_i hlen
      have q' : Po X.K X.mg ι1 H1 (cmpL src xs g ft fe (wipeF fr vs) xs S1) k (fun _ _ _ _ => False) := by
        unfold nox at q
        cases e : cmpL src xs g ft fe (wipeF fr vs) xs S1 with
        | ok l S2 => rw [e] at q; exact q
        | err x S2 => rw [e] at q; exact q.elim
        | bad => rw [e] at q; exact q
      have hLi : L ∉ ι1 := fun z => (s1.occ L z).1 hL
      refine ⟨fun i m H => m = xs.length - i ∧ ∃ ι2 S2 acc vv, Mn ι1 H1 ι2 H ∧ A ι2 H ∧ SR X.K X.mg ι2 S2 H ∧ FR X.K ι2 (wipeF fr vs) (wipe σ vs) H ∧ H L = some (.lst vv) ∧ L ∉ ι2 ∧ Rps X.K ι2 H acc vv ∧ vv.length ≤ i ∧
        Po X.K X.mg ι1 H1 (cmpL src xs g ft fe (wipeF fr vs) (xs.drop i) S2) (fun ys => k (acc ++ ys)) (fun _ _ _ _ => False), ⟨_, rfl, ι1, S1, [], [], ?_⟩, ?_⟩
      · have mf : Mn ι1 H1 ι1 (upd H1 L (.lst [])) := Mn.fresh hL
        exact ⟨mf, T.mono _ _ _ _ mf.w a, s1.fresh hL, wipe_FR ((m1.trans mf).fr f) vs, upd_same, hLi, rfl, Nat.le_refl _, by simpa using q'⟩
      · rintro i m H2 ⟨rfl, ι2, S2, acc, vv, m2, a2, s2, f2, hD, hDi, ra, hvl, q2⟩
        by_cases hi : i < xs.length
        · rw [List.drop_eq_getElem_cons hi] at q2
          unfold cmpL at q2
          split at q2
          · rename_i hsrc
            have hxi : xs[i]? = some xs[i] := List.getElem?_eq_getElem hi
            refine .inr ⟨T.go ι2 S2 H2 xs i _ s2 a2 hsrc hxi, fun H3 => ∃ ι3 S3 acc vv, Mn ι1 H1 ι3 H3 ∧ A ι3 H3 ∧ SR X.K X.mg ι3 S3 H3 ∧ FR X.K ι3 (wipeF fr vs) (wipe σ vs) H3 ∧ H3 L = some (.lst vv) ∧ L ∉ ι3 ∧ Rps X.K ι3 H3 acc vv ∧ vv.length ≤ i + 1 ∧
              Po X.K X.mg ι1 H1 (cmpL src xs g ft fe (wipeF fr vs) (xs.drop (i + 1)) S3) (fun ys => k (acc ++ ys)) (fun _ _ _ _ => False), fun H3 w => ⟨_, by omega, rfl, w⟩, fun x H3 hy => ?_⟩
            obtain ⟨m3, s3, r3⟩ := T.yld ι2 S2 H2 xs i _ x H3 s2 a2 hsrc hxi hy
            have hD3 := m3.kept L _ hD hDi
            have stay : ∀ {ι' H'}, Mn ι2 H3 ι' H' → H' L = some (.lst vv) ∧ L ∉ ι' := fun {ι' H'} m => by
              refine ⟨m.kept L _ hD3 hDi, fun z => ?_⟩
              obtain ⟨t, rfl, ht⟩ := m.pre
              rcases List.mem_append.mp z with z | z
              · exact hDi z
              · have := ht L z; rw [hD3] at this; cases this
            cases eg : g xs[i] (wipeF fr vs) S2 with
            | err x S4 => rw [eg] at q2; exact q2.elim
            | bad => rw [eg] at q2; exact q2.elim
            | ok fr4 S4 =>
              rw [eg] at q2
              refine ⟨ι2, wipeF fr vs, S2, _, s3, m3.fr f2, r3, ?_⟩
              rw [eg]
              intro ι4 H4 m4 s4 σ4 f4 t4
              refine ⟨(wipe_same t4 hts).trans (wipe_wipe vs), ι4, fr4, S4, s4, f4, ?_⟩
              simp only at q2
              cases et : ft fr4 S4 with
              | err x S5 => simp only [et] at q2; exact q2.elim
              | bad => simp only [et] at q2; exact q2.elim
              | ok b S5 =>
                simp only [et] at q2
                intro ι5 H5 m5 s5
                cases b with
                | false =>
                  refine (if_neg Bool.false_ne_true).mpr ?_
                  have mm := m4.trans m5
                  obtain ⟨h5, n5⟩ := stay mm
                  exact ⟨ι5, S5, acc, vv, m2.trans (m3.trans mm), T.mono _ _ _ _ (m3.trans mm).w a2, s5, (m3.trans mm).fr f2, h5, n5, (m3.trans mm).rps ra, by omega, q2⟩
                | true =>
                  refine (if_pos rfl).mpr ⟨ι5, fr4, S5, s5, m5.fr f4, ?_⟩
                  simp only at q2
                  cases ee : fe fr4 S5 with
                  | err x S6 => simp only [ee] at q2; exact q2.elim
                  | bad => simp only [ee] at q2; exact q2.elim
                  | ok y S6 =>
                    simp only [ee] at q2
                    intro ι6 H6 m6 s6 v6 r6
                    have mm := m3.trans (m4.trans (m5.trans m6))
                    obtain ⟨h6, n6⟩ := stay (m4.trans (m5.trans m6))
                    have mw : Mw ι6 H6 ι6 (upd H6 L (.lst (vv ++ [v6]))) := Mw.other h6 (by intro _ z; cases z) (by intro _ _ z; cases z)
                    refine ⟨vv, h6, by omega, ι6, S6, acc ++ [y], vv ++ [v6], (m2.trans mm).other hL, T.mono _ _ _ _ mw (T.mono _ _ _ _ mm.w a2), s6.other h6 (by intro _ z; cases z) (by intro _ _ z; cases z) n6, mw.fr (mm.fr f2), upd_same, n6,
                      mw.rps ((mm.rps ra).app ⟨v6, [], rfl, r6, rfl⟩), by simp; omega, ?_⟩
                    unfold bnd at q2
                    cases ec : cmpL src xs g ft fe (wipeF fr vs) (xs.drop (i + 1)) S6 with
                    | ok ys S7 =>
                      simp only [ec] at q2
                      intro ι7 H7 m7 s7
                      have := (q2 ι7 H7 m7 s7)
                      simpa using this
                    | err x S7 => simp only [ec] at q2; exact q2
                    | bad => simp only [ec] at q2; exact q2
          · exact q2.elim
        · rw [List.drop_eq_nil_of_le (by omega)] at q2
          unfold cmpL at q2
          split at q2
          · rename_i hsrc
            refine .inl ⟨T.stop ι2 S2 H2 xs i s2 a2 hsrc (by omega), hk acc S2 ι1 H1 ι2 H2 L vv m1 m2 hL (fun ι3 H3 m3 s3 => ?_) s2 hD hDi ra⟩
            have := q2 ι3 H3 m3 s3
            simpa using this
          · exact q2.elim
    · exact q.elim
/-- the block's parts, in every block -/
structure Blk (X : Cx) (scope : Scope) (ts : List Nat) (g : D → Frame → M Frame) (ft : Frame → M Bool) (fe : Frame → M D) (tg : Expr) (ifs : List Expr) (elt : Expr) : Prop where
  tgt : ∀ (s : Shared) (H : Hp) (C : Addr) (cl : List (Str × Addr)) (fp : List Addr), DG (X.blk s H scope (compEnvC scope cl C X.env) fp) ts g tg
  tst : ∀ (s : Shared) (H : Hp) (C : Addr) (cl : List (Str × Addr)) (fp : List Addr), DTs (X.blk s H scope (compEnvC scope cl C X.env) fp) W0 ft ifs
  elt : ∀ (s : Shared) (H : Hp) (C : Addr) (cl : List (Str × Addr)) (fp : List Addr), DE (X.blk s H scope (compEnvC scope cl C X.env) fp) W0 fe elt
theorem DE_cmp_ {W : WE} (hc : X.calm = true) (hN : X.N.Nodup) (hi : DI X W fi tg iter) (ok : BlkOk X.N X.env.scope scope own) (hts : ∀ i ∈ ts, i ∈ own.map (·.2)) (B : Blk X scope ts g ft fe tg ifs elt) (hs : ∀ x, foldedSetIterable iter X.env x = pure x := by intro _; rfl) :
    DE X W (cmpD (own.map (·.2)) fi g ft fe) (.ListComp elt [⟨tg, iter, ifs, 0⟩] scope pos) := by
  obtain ⟨wi, h1, h2⟩ := hi
  refine DE.of (pe_lc (g := trG X.K X.mg ts g) (tt := trT X.K X.mg W0 ft) (te := trE X.K X.mg W0 fe) hc hN h1 ok B.tgt B.tst B.elt hs) fun σ H Q ι fr S s f h => ?_
  refine lc_data h2 hts s f h.bnd fun l S' ι0 H0 ι' H' p vv _ m hp k s' hl hn r => ?_
  refine .inr ⟨p, _, rfl, hl, trivial, fun o => ?_⟩
  have mw : Mw ι' H' ι' (upd H' p (.frz o (.lst vv))) := Mw.other hl (by intro _ z; cases z) (by intro _ _ z; cases z)
  have s2 : SR X.K X.mg ι' S' (upd H' p (.frz o (.lst vv))) := s'.other hl (by intro _ z; cases z) (by intro _ _ z; cases z) hn
  exact (k ι' _ (m.other hp) s2).ok s2 _ ⟨p, vv, rfl, .inl ⟨o, upd_same⟩, mw.rps r⟩
theorem DE_cmpO {W : WE} (hc : X.calm = true) (hN : X.N.Nodup) (hi : DI X W fi tg iter) (ok : BlkOk X.N X.env.scope scope own) (hts : ∀ i ∈ ts, i ∈ own.map (·.2)) (B : Blk X scope ts g ft fe tg ifs elt) (hs : ∀ x, foldedSetIterable iter X.env x = pure x := by intro _; rfl) :
    DE X W (cmpO (own.map (·.2)) fi g ft fe) (.ListComp elt [⟨tg, iter, ifs, 0⟩] scope pos) := by
  obtain ⟨wi, h1, h2⟩ := hi
  refine DE.of (pe_lc (g := trG X.K X.mg ts g) (tt := trT X.K X.mg W0 ft) (te := trE X.K X.mg W0 fe) hc hN h1 ok B.tgt B.tst B.elt hs) fun σ H Q ι fr S s f h => ?_
  refine lc_data h2 hts s f h.bndE fun l S' ι0 H0 ι' H' p vv m0 m hp k s' hl hn r => .inl ?_
  have he := (k ι' H' m s').1
  have m2 : Mn ι0 H0 (ι' ++ [p]) H' := by
    obtain ⟨t, rfl, ht⟩ := m.pre
    refine ⟨⟨t ++ [p], by simp, fun a ha => ?_⟩, m.live, m.tups, m.frzs, m.kept⟩
    rcases List.mem_append.mp ha with ha | ha
    · exact ht a ha
    · rw [List.mem_singleton.mp ha]; exact hp
  have mw : Mw ι' H' (ι' ++ [p]) H' := ⟨⟨_, rfl⟩, fun _ _ z => z, fun _ _ _ z => z⟩
  have s2 : SR X.K X.mg (ι' ++ [p]) (S' ++ [some (.lst l)]) H' := by
    refine ⟨?_, by simp [s'.len], fun a ha => ?_, fun n o e => ?_⟩
    · rw [List.nodup_append]
      exact ⟨s'.nd, by simp, fun a ha b hb z => by simp at hb; subst hb; subst z; exact hn ha⟩
    · rcases List.mem_append.mp ha with ha | ha
      · exact s'.occ a ha
      · rw [List.mem_singleton.mp ha, hl]; exact ⟨by simp, by intro _ z; cases z⟩
    · by_cases hnl : n < S'.length
      · rw [List.getElem?_append_left hnl] at e
        obtain ⟨a, e1, r1⟩ := s'.obj n o e
        exact ⟨a, mw.ix e1, mw.or rfl r1⟩
      · have hz : n = S'.length := by
          have := (List.getElem?_eq_some_iff.mp e).1
          simp at this
          omega
        subst hz
        rw [List.getElem?_append_right (Nat.le_refl _)] at e
        simp at e
        subst e
        refine ⟨p, ?_, vv, hl, mw.rps r⟩
        rw [s'.len]
        simp
  have hb : Po X.K X.mg ι H (newO (.lst l) S') (kE X.K Q) (kX X.K X.mg W σ) := by
    have e : cmpO (own.map (·.2)) fi g ft fe fr S = newO (.lst l) S' := bnd_ok he
    rw [← e]
    exact h
  refine hb (ι' ++ [p]) H' (m0.trans m2) s2 _ ⟨p, rfl, ?_⟩
  rw [s'.len]
  simp
end
end DL
namespace DL
open PySem PySem.Spec PyProof.Rows L2
open SeqAt (shaped)

/-! ### built-ins -/
def lenD (xs : List D) : M D := fun S => match xs with
  | [.str z] => if z.length ≤ sizeLine then .ok (.int z.length) S else .bad
  | [d] => match seqL S d with
    | some l => .ok (.int l.length) S
    | none => .bad
  | _ => .bad
def absD (xs : List D) : M D := fun S => match xs with
  | [.int i] => .ok (.int (if i < 0 then -i else i)) S
  | _ => .bad
def intD (xs : List D) : M D := fun S => match xs with
  | [.int i] => .ok (.int i) S
  | [.bl b] => .ok (.int (if b then 1 else 0)) S
  | [.str z] => (match PySem.intText? z with
    | some n => if z.length ≤ 640 then .ok (.int n) S else .bad
    | none => .bad)
  | _ => .bad
def strD (xs : List D) : M D := fun S => match xs with
  | [.int i] => if i.natAbs.log2 < 1920 then .ok (.str (toString i)) S else .bad
  | [.str z] => .ok (.str z) S
  | _ => .bad
def maxI : List Int → Option Int
  | [] => none
  | x :: r => some (r.foldl (fun a b => if b > a then b else a) x)
def minI : List Int → Option Int
  | [] => none
  | x :: r => some (r.foldl (fun a b => if b < a then b else a) x)
/-- the ints of a list of ints -/
def intsL : List D → Option (List Int)
  | [] => some []
  | .int i :: r => (intsL r).map (i :: ·)
  | _ => none
def blsL : List D → Option (List Bool)
  | [] => some []
  | .bl i :: r => (blsL r).map (i :: ·)
  | _ => none
def oneL (S : Store) : List D → Option (List D)
  | [d] => lstL S d
  | _ => none
def max2D (xs : List D) : M D := fun S => match xs with
  | [.int i, .int j] => .ok (.int (if j > i then j else i)) S
  | _ => .bad
def min2D (xs : List D) : M D := fun S => match xs with
  | [.int i, .int j] => .ok (.int (if j < i then j else i)) S
  | _ => .bad
def sumD (xs : List D) : M D := fun S => match (oneL S xs).bind intsL with
  | some ns => .ok (.int ns.sum) S
  | none => .bad
def max1D (xs : List D) : M D := fun S => match ((oneL S xs).bind intsL).bind maxI with
  | some n => .ok (.int n) S
  | none => .bad
def min1D (xs : List D) : M D := fun S => match ((oneL S xs).bind intsL).bind minI with
  | some n => .ok (.int n) S
  | none => .bad
def anyD (xs : List D) : M D := fun S => match (oneL S xs).bind blsL with
  | some bs => .ok (.bl (bs.any id)) S
  | none => .bad
def allD (xs : List D) : M D := fun S => match (oneL S xs).bind blsL with
  | some bs => .ok (.bl (bs.all id)) S
  | none => .bad
def listD (xs : List D) : M D := fun S => match xs with
  | [d] => (match seqL S d with
    | some l => .ok (.lst l) S
    | none => .bad)
  | _ => .bad
def listO (xs : List D) : M D := fun S => match xs with
  | [d] => (match seqL S d with
    | some l => newO (.lst l) S
    | none => .bad)
  | _ => .bad
def tupleD (xs : List D) : M D := fun S => match xs with
  | [.ctu l] => .ok (.ctu l) S
  | [.ptu l] => .ok (.ptu l) S
  | [d] => (match seqL S d with
    | some l => .ok (.tup l) S
    | none => .bad)
  | _ => .bad
section
variable {K : PySem.W.Frag} {ι : List Addr} {H : Hp}
theorem intsL_rps : ∀ {l : List D} {ns : List Int} {vs : List V}, intsL l = some ns → Rps K ι H l vs → vs = ns.map V.int
  | [], _, _, h, r => by cases h; cases r; rfl
  | .int i :: l, ns, vs, h, r => by
    obtain ⟨v, w, rfl, r1, r2⟩ := r
    cases r1
    unfold intsL at h
    cases e : intsL l with
    | none => rw [e] at h; cases h
    | some ms => rw [e] at h; cases h; rw [intsL_rps e r2]; rfl
  | .non :: _, _, _, h, _ => by cases h
  | .bl _ :: _, _, _, h, _ => by cases h
  | .str _ :: _, _, _, h, _ => by cases h
  | .tup _ :: _, _, _, h, _ => by cases h
  | .ctu _ :: _, _, _, h, _ => by cases h
  | .ptu _ :: _, _, _, h, _ => by cases h
  | .lst _ :: _, _, _, h, _ => by cases h
  | .emp :: _, _, _, h, _ => by cases h
  | .ob _ :: _, _, _, h, _ => by cases h
theorem blsL_rps : ∀ {l : List D} {ns : List Bool} {vs : List V}, blsL l = some ns → Rps K ι H l vs → vs = ns.map V.bl
  | [], _, _, h, r => by cases h; cases r; rfl
  | .bl i :: l, ns, vs, h, r => by
    obtain ⟨v, w, rfl, r1, r2⟩ := r
    cases r1
    unfold blsL at h
    cases e : blsL l with
    | none => rw [e] at h; cases h
    | some ms => rw [e] at h; cases h; rw [blsL_rps e r2]; rfl
  | .non :: _, _, _, h, _ => by cases h
  | .int _ :: _, _, _, h, _ => by cases h
  | .str _ :: _, _, _, h, _ => by cases h
  | .tup _ :: _, _, _, h, _ => by cases h
  | .ctu _ :: _, _, _, h, _ => by cases h
  | .ptu _ :: _, _, _, h, _ => by cases h
  | .lst _ :: _, _, _, h, _ => by cases h
  | .emp :: _, _, _, h, _ => by cases h
  | .ob _ :: _, _, _, h, _ => by cases h
theorem one_at {mg : Str → Option Value} {S : Store} {xs : List D} {vs : List V} {l : List D} (s : SR K mg ι S H) (r : Rps K ι H xs vs) (h : oneL S xs = some l) : ∃ a ws, vs = [.ref a] ∧ SqL K H a ws ∧ Rps K ι H l ws := by
  match xs, h with
  | [d], h =>
    obtain ⟨v, w, rfl, r1, r2⟩ := r
    cases r2
    obtain ⟨a, ws, rfl, h1, h2⟩ := lst_at s r1 h
    exact ⟨a, ws, rfl, h1, h2⟩
end
theorem max_fold : ∀ (r : List Int) (x m : Int), (m = x ∨ m ∈ r) → (x ≤ m ∧ ∀ y ∈ r, y ≤ m) → r.foldl (fun a b => if b > a then b else a) x = m
  | [], x, m, h, _ => by rcases h with h | h; exact h.symm; cases h
  | y :: r, x, m, h, ⟨h1, h2⟩ => by
    have hy := h2 y List.mem_cons_self
    show r.foldl _ (if y > x then y else x) = m
    refine max_fold r _ m ?_ ⟨by split <;> omega, fun z hz => h2 z (List.mem_cons_of_mem _ hz)⟩
    rcases h with h | h
    · left; split <;> omega
    · rcases List.mem_cons.mp h with h | h
      · left; split <;> omega
      · exact .inr h
theorem min_fold : ∀ (r : List Int) (x m : Int), (m = x ∨ m ∈ r) → (m ≤ x ∧ ∀ y ∈ r, m ≤ y) → r.foldl (fun a b => if b < a then b else a) x = m
  | [], x, m, h, _ => by rcases h with h | h; exact h.symm; cases h
  | y :: r, x, m, h, ⟨h1, h2⟩ => by
    have hy := h2 y List.mem_cons_self
    show r.foldl _ (if y < x then y else x) = m
    refine min_fold r _ m ?_ ⟨by split <;> omega, fun z hz => h2 z (List.mem_cons_of_mem _ hz)⟩
    rcases h with h | h
    · left; split <;> omega
    · rcases List.mem_cons.mp h with h | h
      · left; split <;> omega
      · exact .inr h
section
variable {X : Cx} {W : WE}
theorem C_len : CalD X W (.builtin "len") lenD := by
  refine ⟨_, call_len, fun ι S H σ xs vs Q s r h => ?_⟩
  unfold lenD at h
  split at h
  · obtain ⟨v, w, rfl, r1, r2⟩ := r
    cases r1; cases r2
    split at h
    · rename_i hz
      exact ⟨_, _, rfl, ⟨hz, rfl⟩, .inl (h.ok s _ rfl)⟩
    · exact h.bad
  · obtain ⟨v, w, rfl, r1, r2⟩ := r
    cases r2
    split at h
    · rename_i l hl
      obtain ⟨a, ws, rfl, hq, rs⟩ := seq_at s r1 hl
      rw [rs.length] at h
      rcases hq with hq | hq
      · exact ⟨_, _, rfl, .inl ⟨ws, hq, rfl⟩, .inl (h.ok s _ rfl)⟩
      · exact ⟨_, _, rfl, .inr ⟨ws, hq, rfl⟩, .inl (h.ok s _ rfl)⟩
    · exact h.bad
  · exact h.bad
theorem C_abs : CalD X W (.builtin "abs") absD := by
  refine ⟨_, call_abs, fun ι S H σ xs vs Q s r h => ?_⟩
  unfold absD at h
  split at h
  · obtain ⟨v, w, rfl, r1, r2⟩ := r
    cases r1; cases r2
    exact ⟨_, rfl, .inl (h.ok s _ rfl)⟩
  · exact h.bad
theorem CallR.or {f : Value} {r r' : List V → Hp → VK → Prop} (h : CallR X f r) (h' : CallR X f r') : CallR X f (fun xs H Q => r xs H Q ∨ r' xs H Q) := fun pins s σ H xs us Q I rv q =>
  q.elim (h pins s σ H xs us Q I rv) (h' pins s σ H xs us Q I rv)
theorem C_int : CalD X W (.type "int") intD := by
  refine ⟨_, CallR.or call_int1 call_int_str, fun ι S H σ xs vs Q s r h => ?_⟩
  unfold intD at h
  split at h
  · obtain ⟨v, w, rfl, r1, r2⟩ := r
    cases r1; cases r2
    exact .inl (.inl ⟨_, rfl, .inl (h.ok s _ rfl)⟩)
  · obtain ⟨v, w, rfl, r1, r2⟩ := r
    cases r1; cases r2
    exact .inl (.inr ⟨_, rfl, .inl (h.ok s _ rfl)⟩)
  · obtain ⟨v, w, rfl, r1, r2⟩ := r
    cases r1; cases r2
    split at h
    · rename_i n hn
      split at h
      · rename_i hl
        exact .inr ⟨_, n, rfl, hn, hl, .inl (h.ok s _ rfl)⟩
      · exact h.bad
    · exact h.bad
  · exact h.bad
theorem C_str : CalD X W (.type "str") strD := by
  refine ⟨_, CallR.or call_str_int SkE.call_str_str, fun ι S H σ xs vs Q s r h => ?_⟩
  unfold strD at h
  split at h
  · obtain ⟨v, w, rfl, r1, r2⟩ := r
    cases r1; cases r2
    split at h
    · rename_i hl
      exact .inl ⟨_, rfl, hl, .inl (h.ok s _ rfl)⟩
    · exact h.bad
  · obtain ⟨v, w, rfl, r1, r2⟩ := r
    cases r1; cases r2
    exact .inr ⟨_, rfl, .inl (h.ok s _ rfl)⟩
  · exact h.bad
theorem C_max2 (hc : X.calm = true) : CalD X W (.builtin "max") max2D := by
  refine ⟨_, call_max2 hc, fun ι S H σ xs vs Q s r h => ?_⟩
  unfold max2D at h
  split at h
  · obtain ⟨v, w, rfl, r1, v2, w2, rfl, r2, r3⟩ := r
    cases r1; cases r2; cases r3
    exact ⟨_, _, rfl, .inl (h.ok s _ rfl)⟩
  · exact h.bad
theorem C_min2 (hc : X.calm = true) : CalD X W (.builtin "min") min2D := by
  refine ⟨_, call_min2 hc, fun ι S H σ xs vs Q s r h => ?_⟩
  unfold min2D at h
  split at h
  · obtain ⟨v, w, rfl, r1, v2, w2, rfl, r2, r3⟩ := r
    cases r1; cases r2; cases r3
    exact ⟨_, _, rfl, .inl (h.ok s _ rfl)⟩
  · exact h.bad
theorem ints_at {ι : List Addr} {S : Store} {H : Hp} {xs : List D} {vs : List V} {ns : List Int} (s : SR X.K X.mg ι S H) (r : Rps X.K ι H xs vs) (h : (oneL S xs).bind intsL = some ns) : ∃ a, vs = [.ref a] ∧ SqL X.K H a (ns.map V.int) := by
  cases e : oneL S xs with
  | none => rw [e] at h; cases h
  | some l =>
    rw [e] at h
    obtain ⟨a, ws, rfl, h1, h2⟩ := one_at s r e
    rw [intsL_rps h h2] at h1
    exact ⟨a, rfl, h1⟩
theorem bls_at {ι : List Addr} {S : Store} {H : Hp} {xs : List D} {vs : List V} {ns : List Bool} (s : SR X.K X.mg ι S H) (r : Rps X.K ι H xs vs) (h : (oneL S xs).bind blsL = some ns) : ∃ a, vs = [.ref a] ∧ SqL X.K H a (ns.map V.bl) := by
  cases e : oneL S xs with
  | none => rw [e] at h; cases h
  | some l =>
    rw [e] at h
    obtain ⟨a, ws, rfl, h1, h2⟩ := one_at s r e
    rw [blsL_rps h h2] at h1
    exact ⟨a, rfl, h1⟩
theorem C_sum (hc : X.calm = true) : CalD X W (.builtin "sum") sumD := by
  refine ⟨_, cr_sum hc, fun ι S H σ xs vs Q s r h => ?_⟩
  unfold sumD at h
  split at h
  · rename_i ns hn
    obtain ⟨a, rfl, h1⟩ := ints_at s r hn
    exact ⟨a, ns, rfl, h1, .inl (h.ok s _ rfl)⟩
  · exact h.bad
theorem C_any (hc : X.calm = true) : CalD X W (.builtin "any") anyD := by
  refine ⟨_, cr_any hc, fun ι S H σ xs vs Q s r h => ?_⟩
  unfold anyD at h
  split at h
  · rename_i ns hn
    obtain ⟨a, rfl, h1⟩ := bls_at s r hn
    exact ⟨a, ns, rfl, h1, .inl (h.ok s _ rfl)⟩
  · exact h.bad
theorem C_all (hc : X.calm = true) : CalD X W (.builtin "all") allD := by
  refine ⟨_, cr_all hc, fun ι S H σ xs vs Q s r h => ?_⟩
  unfold allD at h
  split at h
  · rename_i ns hn
    obtain ⟨a, rfl, h1⟩ := bls_at s r hn
    exact ⟨a, ns, rfl, h1, .inl (h.ok s _ rfl)⟩
  · exact h.bad
theorem C_max1 (hc : X.calm = true) : CalD X W (.builtin "max") max1D := by
  refine ⟨_, cr_max hc, fun ι S H σ xs vs Q s r h => ?_⟩
  unfold max1D at h
  cases e : (oneL S xs).bind intsL with
  | none => rw [e] at h; exact h.bad
  | some ns =>
    obtain ⟨a, rfl, h1⟩ := ints_at s r e
    cases ns with
    | nil => rw [e] at h; exact h.bad
    | cons n ns =>
      rw [e] at h
      simp only [Option.bind_some, maxI] at h
      refine ⟨a, n :: ns, rfl, h1, by simp, fun m hm hy => .inl ?_⟩
      have q := max_fold ns n m (List.mem_cons.mp hm) ⟨hy n List.mem_cons_self, fun y z => hy y (List.mem_cons_of_mem _ z)⟩
      rw [q] at h
      exact h.ok s _ rfl
theorem C_min1 (hc : X.calm = true) : CalD X W (.builtin "min") min1D := by
  refine ⟨_, cr_min hc, fun ι S H σ xs vs Q s r h => ?_⟩
  unfold min1D at h
  cases e : (oneL S xs).bind intsL with
  | none => rw [e] at h; exact h.bad
  | some ns =>
    obtain ⟨a, rfl, h1⟩ := ints_at s r e
    cases ns with
    | nil => rw [e] at h; exact h.bad
    | cons n ns =>
      rw [e] at h
      simp only [Option.bind_some, minI] at h
      refine ⟨a, n :: ns, rfl, h1, by simp, fun m hm hy => .inl ?_⟩
      have q := min_fold ns n m (List.mem_cons.mp hm) ⟨hy n List.mem_cons_self, fun y z => hy y (List.mem_cons_of_mem _ z)⟩
      rw [q] at h
      exact h.ok s _ rfl
theorem C_list : CalD X W (.type "list") listD := by
  refine ⟨_, call_list_of, fun ι S H σ xs vs Q s r h => ?_⟩
  unfold listD at h
  split at h
  · obtain ⟨v, w, rfl, r1, r2⟩ := r
    cases r2
    split at h
    · rename_i l hl
      obtain ⟨a, ws, rfl, hq, rs⟩ := seq_at s r1 hl
      exact ⟨a, ws, rfl, hq, fz_list s rs h⟩
    · exact h.bad
  · exact h.bad
theorem C_listO : CalD X W (.type "list") listO := by
  refine ⟨_, call_list_of, fun ι S H σ xs vs Q s r h => ?_⟩
  unfold listO at h
  split at h
  · obtain ⟨v, w, rfl, r1, r2⟩ := r
    cases r2
    split at h
    · rename_i l hl
      obtain ⟨a, ws, rfl, hq, rs⟩ := seq_at s r1 hl
      exact ⟨a, ws, rfl, hq, ob_list s rs h⟩
    · exact h.bad
  · exact h.bad
theorem C_tuple : CalD X W (.type "tuple") tupleD := by
  refine ⟨_, call_tuple_of, fun ι S H σ xs vs Q s r h => ?_⟩
  unfold tupleD at h
  split at h
  · rename_i l
    obtain ⟨v, w, rfl, ⟨a, vs, rfl, hq, rs⟩, r2⟩ := r
    cases r2
    exact ⟨a, vs, rfl, .inr ⟨hq, .inl (h.ok s _ ⟨a, vs, rfl, hq, rs⟩)⟩⟩
  · rename_i l
    obtain ⟨v, w, rfl, ⟨a, o, vs, rfl, hq, hd, rs⟩, r2⟩ := r
    cases r2
    exact ⟨a, vs, rfl, .inr ⟨.inl (.inr ⟨o, hq⟩), .inl (h.ok s _ ⟨a, o, vs, rfl, hq, hd, rs⟩)⟩⟩
  · rename_i d hd hd2
    obtain ⟨v, w, rfl, r1, r2⟩ := r
    cases r2
    split at h
    · rename_i l hl
      by_cases ht : ∃ l', d = .tup l'
      · obtain ⟨l', rfl⟩ := ht
        cases hl
        obtain ⟨a, vs, rfl, hq, rs⟩ := r1
        exact ⟨a, vs, rfl, .inr ⟨.of hq, .inl (h.ok s _ ⟨a, vs, rfl, hq, rs⟩)⟩⟩
      · have h' : lstL S d = some l := by
          cases d with
          | tup l' => exact absurd ⟨l', rfl⟩ ht
          | ctu l' => exact absurd rfl (hd l')
          | ptu l' => exact absurd rfl (hd2 l')
          | _ => exact hl
        obtain ⟨a, vs, rfl, hq, rs⟩ := lst_at s r1 h'
        exact ⟨a, vs, rfl, .inl ⟨hq, nw_tup s rs h⟩⟩
    · exact h.bad
  · exact h.bad

/-! ### isinstance of a built-in class -/
def oTy : Option (Option O) → Option String
  | some (some (.lst _)) => some "list"
  | some (some (.dk _)) => some "dict"
  | some (some (.dt _)) => some "dict"
  | _ => none
def tyN (S : Store) : D → Option String
  | .non => some "NoneType"
  | .bl _ => some "bool"
  | .int _ => some "int"
  | .str _ => some "str"
  | .tup _ => some "tuple"
  | .ctu _ => some "tuple"
  | .ptu _ => some "tuple"
  | .lst _ => some "list"
  | .emp => some "dict"
  | .ob n => oTy S[n]?
def isiD (T : String) (d : D) : M D := fun S => match (tyN S d).bind fun t => kitB t T with
  | some b => .ok (.bl b) S
  | none => .bad
theorem ty_at {ι : List Addr} {S : Store} {H : Hp} {d : D} {v : V} {t : String} (s : SR X.K X.mg ι S H) (r : Rp X.K ι H d v) (h : tyN S d = some t) : TyX X.K H v (.type t) := by
  cases d with
  | non => cases r; cases h; exact .base .non
  | bl b => cases r; cases h; exact .base (.bl b)
  | int b => cases r; cases h; exact .base (.int b)
  | str b => cases r; cases h; exact .base (.str b)
  | tup l =>
    obtain ⟨a, vs, rfl, hq, _⟩ := r
    cases h
    exact .base (.tup hq)
  | ptu l =>
    obtain ⟨a, o, vs, rfl, hq, _⟩ := r
    cases h
    exact .fTuple hq
  | ctu l =>
    obtain ⟨a, vs, rfl, hq, _⟩ := r
    cases h
    rcases hq with (hq | ⟨o, hq⟩) | ⟨o, its, n, hk, hc, _⟩
    · exact .base (.tup hq)
    · exact .fTuple hq
    · exact .kTuple hk hc
  | lst l =>
    obtain ⟨a, vs, rfl, hq, _⟩ := r
    cases h
    rcases hq with ⟨o, hq⟩ | hq
    · exact .base (.frz hq)
    · rcases hq with (hq | ⟨o, hq⟩) | ⟨o, its, n, hk, hc, _⟩
      · cases hq
      · cases hq
      · exact .kList hk hc
  | emp => obtain ⟨a, o, rfl, hq⟩ := r; cases h; exact .fDict hq
  | ob n =>
    obtain ⟨a, rfl, hi⟩ := r
    have h : oTy S[n]? = some t := h
    cases e : S[n]? with
    | none => rw [e] at h; cases h
    | some x =>
      rw [e] at h
      cases x with
      | none => cases h
      | some o =>
        obtain ⟨b, e1, q⟩ := s.obj n _ e
        rw [hi] at e1; cases e1
        cases o with
        | lst l => cases h; obtain ⟨vs, hq, _⟩ := q; exact .base (.lst hq)
        | dk l => cases h; obtain ⟨vs, hq, _⟩ := q; exact .base (.dK hq)
        | dt l => cases h; obtain ⟨vs, hq, _⟩ := q; exact .base (.dT hq)
        | ins c fs => cases h
/-- isinstance(e, T) -/
theorem DE_isi {T : String} {TN : Str} {e : Expr} {fe : Frame → M D} {pos p p2 : Pos} (he : DE X W fe e) (hg : Gl X "isinstance") (hm : X.mg "isinstance" = none) (hT : Gl X TN) (hTm : X.mg TN = none) (hv : bootBuiltins TN = some (.type T)) (hn : TN ≠ "__name__" := by decide) (hdb : (TN == ("__debug__" : Str)) = false := by decide)
    (h1 : starEach [e, .Name TN p2] X.env = (false, eval e X.env) :: starEach [.Name TN p2] X.env := by rfl) (h2 : starEach [.Name TN p2] X.env = (false, eval (.Name TN p2) X.env) :: starEach [] X.env := by rfl) (hpl : (backTo pos (starEach [.Name TN p2] X.env)).any (·.1) = false := by rfl) :
    DE X W (unF (isiD T) fe) (.Call (.Name "isinstance" p) [e, .Name TN p2] [] pos) := by
  refine DE.of (pe_callB call_isi hg hm (by decide +kernel) (pa_cons he (pa_cons (pe_bltn (v := .ty T) hT hTm hv rfl hn hdb) pa_nil h2) h1) (by decide) (by decide) h1 hpl) fun σ H Q ι fr S s f h => ⟨ι, fr, S, s, f, h.bnd.imp (fun d S1 ι1 H1 m1 s1 h1 v r1 => ?_) fun _ _ _ _ _ _ z => z⟩
  unfold isiD at h1
  split at h1
  · rename_i b hb
    cases q : tyN S1 d with
    | none => rw [q] at hb; cases hb
    | some t =>
      rw [q] at hb
      exact ⟨v, .ty T, .type t, .type T, b, rfl, .ty T, ty_at s1 r1 q, kit_ty hb, .inl (h1.ok s1 _ rfl)⟩
  · exact h1.bad
end
end DL
namespace DL
open PySem PySem.Spec PyProof.Rows L2
open SeqAt (shaped)

/-! ### functions -/
def spD (K : PySem.W.Frag) (mg : Str → Option Value) (n : Nat) (F : List D → M D) : Sp := fun vs H Q E => ∃ ι ds S, SR K mg ι S H ∧ Rps K ι H ds vs ∧ ds.length = n ∧ Po K mg ι H (F ds S) (kE K Q) (fun x _ ι' H' => ∀ c d, XR K mg ι' H' x c d → E c d H')
/-- a def of the module by its name -/
structure FnD (P : Program) (w : World) (K : PySem.W.Frag) (mg : Str → Option Value) (base : Heap) (CX : CXT) (k : Nat) (x : Str) (n : Nat) (dds : List D) (F : List D → M D) : Prop where
  ex : ∃ (f : Addr) (fd : FuncData) (ps : List Str) (ds : List Value) (dvs : List V), mg x = some (.ref f) ∧ PySem.W.keepIn K (.ref f) = true ∧ FnOk P w K mg base CX k f fd ps (spD K mg n F) ∧ Binds K fd ps ds ∧ Vals dvs ds ∧ ∀ ι H, Rps K ι H dds dvs
def frame0 (N : Nat) (ds : List D) : Frame := ds.map some ++ List.replicate (N - ds.length) none
def outS : RS → R D
  | .ok (.rt d) _ S => .ok d S
  | .ok .nx _ S => .ok .non S
  | .err x _ S => .err x S
  | _ => .bad
def bodyF (N : Nat) (f : SM) : List D → M D := fun ds S => outS (f (frame0 N ds) S)
section
variable {K : PySem.W.Frag} {mg : Str → Option Value} {ι : List Addr} {H : Hp}
theorem FR_start {N : List Str} {ds : List D} {vs : List V} (r : Rps K ι H ds vs) : FR K ι (frame0 N.length ds) (L2.start N vs) H := by
  have e := r.length
  refine ⟨by simp [frame0, L2.start, e], fun i d h => ?_⟩
  unfold frame0 at h
  unfold L2.start
  by_cases hi : i < ds.length
  · rw [List.getElem?_append_left (by simpa using hi), List.getElem?_map] at h
    cases q : ds[i]? with
    | none => rw [q] at h; cases h
    | some x =>
      rw [q] at h
      cases h
      obtain ⟨v, hv, rv⟩ := r.get q
      refine ⟨v, ?_, rv⟩
      rw [List.getElem?_append_left (by rw [List.length_map]; omega), List.getElem?_map, hv]
      rfl
  · rw [List.getElem?_append_right (by simpa using hi), List.getElem?_replicate] at h
    split at h <;> cases h
theorem out_ends {W : WE} {N : List Str} {f : SM} {ds : List D} {S : Store} {Q : VK} {E : XK} (h : Po K mg ι H (bodyF N.length f ds S) (kE K Q) (fun x _ ι' H' => ∀ c d, XR K mg ι' H' x c d → E c d H')) (hW : ∀ c d σ H', E c d H' → W c d σ H') :
    PoS K mg W ι H (f (frame0 N.length ds) S) { nx := fun _ H' => Q .non H', rt := Q } := by
  unfold bodyF at h
  cases q : f (frame0 N.length ds) S with
  | ok fl fr S1 =>
    rw [q] at h
    cases fl with
    | nx => exact fun ι1 σ1 H1 m1 s1 f1 => h ι1 H1 m1 s1 _ rfl
    | rt d => exact fun ι1 σ1 H1 m1 s1 f1 => h ι1 H1 m1 s1
    | bk => exact h.elim
    | ct => exact h.elim
  | err x fr S1 => rw [q] at h; exact fun ι1 σ1 H1 m1 s1 f1 c d r => hW c d σ1 H1 (h ι1 H1 m1 s1 c d r)
  | bad => rw [q] at h; exact h
end
section
variable {X : Cx} {W : WE} {e : Expr} {es : List Expr} {pos p : Pos} {fs : List (Frame → M D)}
theorem DE_call {CX : CXT} {k : Nat} {x : Str} {n : Nat} {dds : List D} {F : List D → M D} (h : FnD X.prog X.w X.K X.mg X.base CX k x n dds F) (hr : Room k X.A) (hg : Gl X x) (hx : ∀ σ, PassesAt CX X σ (fun c d H' => W c d σ H')) (hn : fs.length + dds.length = n) (ha : DA X W (seqA fs) (e :: es))
    (hdb : (x == ("__debug__" : Str)) = false := by decide) (he : starEach (e :: es) X.env = (false, eval e X.env) :: starEach es X.env := by rfl) (hpl : (backTo pos (starEach es X.env)).any (·.1) = false := by rfl) :
    DE X W (calF (fun xs => F (xs ++ dds)) fs) (.Call (.Name x p) (e :: es) [] pos) := by
  obtain ⟨f, fd, ps, ds, dvs, h1, h2, h3, h4, h5, h6⟩ := h
  refine DE.of (pe_callSD h3 hr hg h1 h2 h4 h5 hx ha hdb he hpl) fun σ H Q ι fr S s f h => ⟨ι, fr, S, s, f, h.bndE.imp (fun xs S1 ι1 H1 m1 s1 q vs r => ?_) fun _ _ _ _ _ _ z => z⟩
  obtain ⟨hq, q⟩ := q
  have hl := seqA_len hq
  exact ⟨ι1, xs ++ dds, S1, s1, r.app (h6 _ _), by simp [hl]; omega, q.imp (fun d _ _ _ _ _ z v r => .inl (z v r)) fun _ _ _ _ _ _ z => z⟩
end
/-- the names whose cells were made here: a def (all), a comprehension's block (its own) -/
def fnS : Option Scope → Str → Bool
  | none => fun _ => true
  | some scope => fun x => scope.names.lookup x == some .cell
/-- what a body's derivation knows of its place -/
structure CxD (X : Cx) (N : List Str) (sc : Scope) (b : Option Scope) (k : Nat) : Prop where
  hN : X.N = N
  hsc : X.env.scope = sc
  hfn : X.fn = fnS b
  calm : X.calm = true
  room : Room k X.A
  nd : X.N.Nodup
  own : PassesOwn (model X.prog X.w) X.A X.env X.xe
theorem CxD.hu {X : Cx} {N : List Str} {sc : Scope} {b : Option Scope} {k : Nat} (c : CxD X N sc b k) : X.A.units + 64 < cLine := c.room.units
theorem CxD.hu5 {X : Cx} {N : List Str} {sc : Scope} {b : Option Scope} {k : Nat} (c : CxD X N sc b k) : X.A.units + 65 < cLine := by have := c.room.un; omega
/-- a local name -/
structure NL (N : List Str) (sc : Scope) (i : Nat) (x : Str) : Prop where
  ix : N[i]? = some x
  lc : sc.names.lookup x = some .local ∨ sc.names.lookup x = some .cell ∨ sc.names.lookup x = some .free
  d1 : (x == ("__debug__" : Str)) = false
  d2 : (x == ("__classdict__" : Str)) = false
/-- a global name -/
structure NG (sc : Scope) (x : Str) : Prop where
  gl : sc.names.lookup x = some .globalImplicit
  nn : x ≠ "__name__"
  d1 : (x == ("__debug__" : Str)) = false
section
variable {X : Cx} {W : WE} {N : List Str} {sc : Scope} {b : Option Scope} {k : Nat} {e : Expr} {es : List Expr} {pos p : Pos} {fe : Frame → M D} {fs : List (Frame → M D)} {i : Nat} {x : Str}
theorem CxD.gl (c : CxD X N sc b k) (n : NG sc x) : Gl X x := by unfold Gl Env.kindOf; rw [c.hsc]; exact n.gl
theorem CxD.var (c : CxD X N sc b k) (n : NL N sc i x) : DE X W (varF i) (.Name x pos) := DE_var (by rw [c.hN]; exact n.ix) (by rw [c.hsc]; exact n.lc) n.d1 n.d2
theorem CxD.loc (c : CxD X N sc b k) (hl : sc.names.lookup x = some .local ∨ (sc.names.lookup x = some .cell ∧ fnS b x = true)) : Loc X.env.scope x ∧ (X.fn x = true ∨ X.env.scope.names.lookup x = some .local) := by
  rw [c.hsc, c.hfn]
  rcases hl with h | ⟨h, h2⟩
  · exact ⟨.inl h, .inr h⟩
  · exact ⟨.inr h, .inl h2⟩
theorem CxD.set {p' : Pos} (c : CxD X N sc b k) (n : NL N sc i x) (hl : sc.names.lookup x = some .local ∨ (sc.names.lookup x = some .cell ∧ fnS b x = true)) (he : DE X W fe e) (hs : swapsWith e (some (.Name x p')) pos.line X.env = pure false := by rfl) : DS X W (asgF i fe) (.Assign [.Name x p'] e pos) :=
  DS_set c.nd (by rw [c.hN]; exact n.ix) (c.loc hl).1 he hs (c.loc hl).2
theorem CxD.tgt (c : CxD X N sc b k) (n : NL N sc i x) (hl : sc.names.lookup x = some .local ∨ (sc.names.lookup x = some .cell ∧ fnS b x = true)) : DG X [i] (tgName i) (.Name x pos) :=
  DG_name c.nd (by rw [c.hN]; exact n.ix) (c.loc hl).1 (c.loc hl).2
theorem CxD.blt {id : String} {g : List D → M D} (c : CxD X N sc b k) (n : NG sc x) (hm : X.mg x = none) (hv : bootBuiltins x = some (.builtin id)) (hc : CalD X W (.builtin id) g) (ha : DA X W (seqA fs) (e :: es))
    (he : starEach (e :: es) X.env = (false, eval e X.env) :: starEach es X.env := by rfl) (hpl : (backTo pos (starEach es X.env)).any (·.1) = false := by rfl) : DE X W (calF g fs) (.Call (.Name x p) (e :: es) [] pos) :=
  DE_blt hc (c.gl n) hm hv ha n.nn n.d1 he hpl
theorem CxD.typ {id : String} {g : List D → M D} (c : CxD X N sc b k) (n : NG sc x) (hm : X.mg x = none) (hv : bootBuiltins x = some (.type id)) (hc : CalD X W (.type id) g) (ha : DA X W (seqA fs) (e :: es))
    (he : starEach (e :: es) X.env = (false, eval e X.env) :: starEach es X.env := by rfl) (hpl : (backTo pos (starEach es X.env)).any (·.1) = false := by rfl) : DE X W (calF g fs) (.Call (.Name x p) (e :: es) [] pos) :=
  DE_typ hc (c.gl n) hm hv ha n.nn n.d1 he hpl
theorem CxD.call0 {n : Nat} {dds : List D} {F : List D → M D} {j : Nat} (c : CxD X N sc b k) (g : NG sc x) (h : FnD X.prog X.w X.K X.mg X.base CX0 j x n dds F) (hj : j ≤ k) (hn : fs.length + dds.length = n) (ha : DA X W (seqA fs) (e :: es))
    (he : starEach (e :: es) X.env = (false, eval e X.env) :: starEach es X.env := by rfl) (hpl : (backTo pos (starEach es X.env)).any (·.1) = false := by rfl) : DE X W (calF (fun xs => F (xs ++ dds)) fs) (.Call (.Name x p) (e :: es) [] pos) :=
  DE_call h (c.room.mono hj) (c.gl g) (fun _ _ _ _ _ _ _ h => h.elim) hn ha g.d1 he hpl
end
/-- a def in which nothing is raised -/
def defF (N : Nat) (f : SM) : List D → M D := fun ds => nox (bodyF N f ds)
theorem Po.nox {K : PySem.W.Frag} {mg : Str → Option Value} {ι : List Addr} {H : Hp} {α : Type} {m : M α} {S : Store} {k : α → Store → List Addr → Hp → Prop} {e e' : Exc → Store → List Addr → Hp → Prop} (h : Po K mg ι H (DL.nox m S) k e) : Po K mg ι H (m S) k e' := by
  unfold DL.nox at h
  cases q : m S with
  | ok d S1 => rw [q] at h; exact h
  | bad => rw [q] at h; exact h
  | err x S1 => rw [q] at h; exact h.elim
theorem fn_body {P : Program} {w : World} {K : PySem.W.Frag} {mg : Str → Option Value} {base : Heap} {x qual : Str} {st : Stmt} {f : Addr} {fd : FuncData} {N ps : List Str} {k : Nat} {B : SM} (F : Fun K x qual st f fd) (S : FnScope N ps (defScope st))
    (body : ∀ X : Cx, X.prog = P → X.w = w → X.K = K → X.mg = mg → X.base = base → CxD X N (defScope st) none k → (X.xe = fun _ _ => False) → DSs X W0 B (defBody st)) : FnOk P w K mg base CX0 (k + 1) f fd ps (spD K mg ps.length (defF N.length B)) := by
  refine F.ok S (fun vs H Q E h => ?_) fun cdv A outer s H vs Q E hr h => ?_
  · obtain ⟨ι, ds, S, _, r, hl, _⟩ := h
    rw [← r.length, hl]
  · obtain ⟨ι, ds, S', s', r, hl, h⟩ := h
    have c : CxD (cxOf CX0 P w K mg base N qual (defScope st) f cdv A outer s H E).nox N (defScope st) none k := ⟨rfl, rfl, rfl, rfl, hr, S.nd, PassesOwn.never⟩
    exact ⟨_, body _ rfl rfl rfl rfl rfl c rfl, ι, frame0 N.length ds, S', s', FR_start r, out_ends (W := W0) (E := fun _ _ _ => False) (Po.nox h) fun _ _ _ _ z => z⟩

/-! ### the law's own def: called where nothing is being shown (guards) -/
theorem def_run {P : Program} {w : World} {K : PySem.W.Frag} {mg : Str → Option Value} {base : Heap} {x qual : Str} {st : Stmt} {f : Addr} {fd : FuncData} {N ps : List Str} {k : Nat} {A : Around} {outer : List Env} {s : Shared} {H : Hp} {us : List Value} {vs : List V} {Q : VK}
    (F : Fun K x qual st f fd) (hS : FnScope N ps (defScope st)) (hr : Room (k + 1) A) (hl : vs.length = ps.length) (e0 : Env0 P w K mg base A outer s H) (hb : BindsTo s fd ⟨us, []⟩ (ps.zip us)) (r : Vals vs us)
    (body : ∀ cdv : Value, ∃ t, PSs (cxOf CX0 P w K mg base N qual (defScope st) f cdv A outer s H E0).nox (defBody st) t ∧ t { nx := fun _ H' => Q .non H', rt := Q } (L2.start N vs) H) :
    codeAny (model P w) A (.call (.ref f) ⟨us, []⟩) (CR CX0 outer P w H s Q E0) s := by
  obtain ⟨o, dd, v1, v2, v3, an, cdv, v4, sl, rfl, look, code⟩ := F.ex
  have inK : K.In s.heap := e0.mod.kin.keeps fun b u z => (e0.bs b u z).1
  have noLim : s.heap.NoLimit := e0.mod.nolimit.keeps fun b u z => (e0.bs b u z).1
  obtain ⟨t, ht, hq⟩ := body cdv
  have names : ∀ y ∈ ps.zip us, (defScope st).names.lookup y.1 = some .local ∨ ((defScope st).names.lookup y.1 = some .cell ∧ ((cellsFrom (s.heap.objs.size + 1) (defScope st).names []).lookup y.1).isSome = true) := by
    intro y hy
    refine (hS.par y.1 (List.of_mem_zip (show (y.1, y.2) ∈ ps.zip us from hy)).1).imp id fun q => ⟨q, ?_⟩
    exact PySem.W.cellsFrom_some _ _ _ (.inl q)
  apply codeAny_call_function hr.depth (inK _ _ look) rfl hS.co hS.gen rfl (PySem.W.codeRec_of inK code)
  apply hb
  apply wpAny_newFunctionEnv_cells hS.kind names
  intro env he s1 here
  subst he
  refine ⟨noLim.keeps here.toInCall.keep, codeAny_func ?_⟩
  have J := inv_start (CX := CX0) (E := E0) hS hr.hd e0 hl r here
  refine wpAny_mono (ht.nox.run [] s1 _ H _ J hq) (fun fl s' q => ?_) fun _ _ z => z
  cases fl with
  | next => obtain ⟨_, H', I, q⟩ := q; exact ⟨.non, H', I.os, I.bare, I.base, I.hok, rfl, q⟩
  | ret u => obtain ⟨v, _, H', I, rv, q⟩ := q; exact ⟨v, H', I.os, I.bare, I.base, I.hok, rv, q⟩
  | brk => obtain ⟨_, _, _, q⟩ := q; exact q.elim
  | cont => obtain ⟨_, _, _, q⟩ := q; exact q.elim
end DL
namespace DL
open PySem PySem.Spec PyProof.Rows L2
open SeqAt (shaped)
/-! ### the end: the law's call on its script -/
/-- what the law's run must show, from the abstract heap in which the script alone may be tracked -/
def LawRun (P : Program) (w : World) (K : PySem.W.Frag) (mg : Str → Option Value) (fa : Addr) : Prop :=
  ∀ (base : Heap) (s : Shared) (H : Hp) (a : Addr) (ns : List Int), K.In base → base.Ns mainGlobals mg → Env0 P w K mg base callerA [] s H → Ls K H a (ns.map V.int) → ns.length ≤ 63 →
    codeAny (model P w) callerA (.call (.ref fa) ⟨[.ref a], []⟩) (CR CX0 [] P w H s (fun v _ => v = .bl true) E0) s
theorem law_run {P : Program} {w : World} {K : PySem.W.Frag} {mg mb : Str → Option Value} {fa a : Addr} {s : Shared} {vs : List Value} {ns : List Int} (R : LawRun P w K mg fa)
    (inK : K.In s.heap) (glob : s.heap.Ns mainGlobals mg) (blt : s.heap.Ns builtinsNs mb) (std : ∀ x : Str, x ≠ "__name__" → mb x = bootBuiltins x) (lim : s.heap.NoLimit) (gens : s.gens = #[])
    (obj : s.heap.get? a = some { cls := .type "list", data := .seq vs.toArray }) (isI : IntsAre vs ns) (few : ns.length ≤ 63) :
    codeAny (model P w) callerA (.call (.ref fa) ⟨[.ref a], []⟩) (fun r s' => r = .ok (.ret (.bool true)) ∧ OldK s.heap s'.heap ∧ s'.os = s.os ∧ AllBare s'.gens) s := by
  have rv : Vals (ns.map V.int) vs := vals_ints isI
  have nl := isI.length
  have line : (ns.map V.int).length ≤ sizeLine := by rw [List.length_map, sizeLine_eq]; omega
  -- one way for both: H tracks nothing but the script
  have both : ∀ H : Hp, (∀ b u, H b = some u → b = a ∧ u = .frz { cls := .type "list", data := .seq vs.toArray } (.lst (ns.map V.int)) ∧ K.lookup a = none) → Ls K H a (ns.map V.int) →
      codeAny (model P w) callerA (.call (.ref fa) ⟨[.ref a], []⟩) (fun r s' => r = .ok (.ret (.bool true)) ∧ OldK s.heap s'.heap ∧ s'.os = s.os ∧ AllBare s'.gens) s := by
    intro H only script
    have held : HOk P w H s.heap := fun b u e => by
      obtain ⟨rfl, rfl, _⟩ := only b u e
      exact ⟨obj, line, vs, _, rv, obj⟩
    have free : ∀ {b : Addr} {o : Obj}, s.heap.get? b = some o → (∀ its n, o.data ≠ .seq its n) → H b = none := fun {b o} e nd => by
      cases q : H b with
      | none => rfl
      | some u =>
        obtain ⟨rfl, _, _⟩ := only b u q
        rw [obj] at e
        cases e
        exact absurd rfl (nd _ _)
    have names : ∀ {b : Addr} {m : Str → Option Value}, s.heap.Ns b m → (hidT s.heap H).Ns b m := fun {b m} z => by
      obtain ⟨o, es, ep, e, d, rest⟩ := z
      exact ⟨o, es, ep, hidT_get e (free e fun its n z => by rw [d] at z; cases z), d, rest⟩
    have kb : K.In (hidT s.heap H) := fun b o e => hidT_get (inK b o e) <| by
      cases q : H b with
      | none => rfl
      | some u =>
        obtain ⟨rfl, _, z⟩ := only b u q
        rw [z] at e
        cases e
    obtain ⟨ml, l1, l2⟩ := lim
    have m0 : Mod K mg (hidT s.heap H) := ⟨kb, names glob, ⟨mb, names blt, std⟩, ml, names l1, l2⟩
    have none_in : ∀ b : Addr, b ∉ frs [] := fun b z => by cases z
    have e0 : Env0 P w K mg (hidT s.heap H) callerA [] s H := ⟨rfl, m0, fun b o e => of_hidT e, Nat.le_of_eq (hidT_size _ _), trivial, fun b z => absurd z (none_in b), held, .of_eq gens⟩
    refine codeAny_mono (R _ s H a ns kb (names glob) e0 script few) fun r s' q => ?_
    match r, q with
    | .ok (.ret u), q =>
      obtain ⟨v, H', os, bare, un, held', ru, rfl⟩ := q
      obtain rfl : u = Value.bool true := ru
      refine ⟨rfl, OldK.of_keep fun b o e => ?_, os, bare⟩
      cases hb : H b with
      | none => exact un.keep b o e hb (none_in b) (by intro z; cases z)
      | some u =>
        obtain ⟨rfl, rfl, _⟩ := only b u hb
        have z := (held' _ _ (un.frzs _ _ _ hb)).1
        rw [obj] at e
        cases e
        exact z
    | .ok .next, q => exact q.elim
    | .ok .brk, q => exact q.elim
    | .ok .cont, q => exact q.elim
    | .error e, q => exact q.elim
  cases look : K.lookup a with
  | some o =>
    have e := inK a o look
    rw [obj] at e
    cases e
    refine both (fun _ => none) (fun b u z => by cases z) (.inr (.inr ⟨_, vs.toArray, _, look, rfl, rfl, rfl, ?_, by simpa using rv⟩))
    rw [List.size_toArray, sizeLine_eq]
    omega
  | none =>
    refine both (fun b => if b = a then some (.frz { cls := .type "list", data := .seq vs.toArray } (.lst (ns.map V.int))) else none) (fun b u z => ?_) (.inl ⟨_, if_pos rfl⟩)
    by_cases hb : b = a
    · have z' := (if_pos hb).symm.trans z
      exact ⟨hb, (Option.some.inj z').symm, look⟩
    · have z' := (if_neg hb).symm.trans z
      cases z'
theorem law_walk {l : PySem.W.OpenLaw} {q : Program} {loose : List Str} {XP : (Str → Option Value) → Heap → Prop} {YP : World → Heap → Prop} {d : DefRec} {K : Params → PySem.W.Frag} (hn : l.most = some 63) (hdf : d.params.defaults = [])
    (hY : ∀ (w : World) (h : Heap), YP w h → (K w.params).In h)
    (F : ∀ (w : World) (mg : Str → Option Value) (fa : Addr) (h : Heap), (K w.params).In h → h.Ns mainGlobals mg → mg d.name = some (.ref fa) → LawRun l.prog w (K w.params) mg fa) :
    PySem.W.WalkO q loose XP YP l.row.toRowW d [] (fun f vs => PySem.call f vs) :=
  Att.attach_call hn hdf fun w s₀ s₁ mg mb fa o pm cd doc a vs ns G Y ho hd hcd hmg hobj hints hlen hg =>
    law_run (F w mg fa _ (hY w _ Y) G.T.g hmg) (hY w _ Y) G.T.g G.T.b G.T.builtins G.T.nolimit hg hobj hints hlen
/-- the law's body: the script is data; the frame's guards are empty -/
theorem law_of {P : Program} {w : World} {K : PySem.W.Frag} {mg : Str → Option Value} {f : Addr} {fd : FuncData} {st : Stmt} {N : List Str} {p : Str} {k : Nat} {B : SM} (F : Fun K "law" "law" st f fd) (hS : FnScope N [p] (defScope st)) (hb : Binds K fd [p] []) (hr : Room (k + 1) callerA)
    (body : ∀ (base : Heap) (X : Cx), K.In base → base.Ns mainGlobals mg → X.prog = P → X.w = w → X.K = K → X.mg = mg → X.base = base → CxD X N (defScope st) none k → (X.xe = fun _ _ => False) → X.A.guards = some [] → DSs X W0 B (defBody st))
    (holds : ∀ ns : List Int, ns.length ≤ 63 → ∃ S, defF N.length B [.lst (ns.map .int)] [] = .ok (.bl true) S) : LawRun P w K mg f := by
  intro base s H a ns kb gb e0 script few
  obtain ⟨S, hS'⟩ := holds ns few
  refine def_run (k := k) F hS hr (vs := [.ref a]) rfl e0 ?_ (.cons rfl .nil) fun cdv => ?_
  · have := hb s [.ref a] (e0.mod.kin.keeps fun b u z => (e0.bs b u z).1) rfl
    simpa using this
  · have c : CxD (cxOf CX0 P w K mg base N "law" (defScope st) f cdv callerA [] s H E0).nox N (defScope st) none k := ⟨rfl, rfl, rfl, rfl, hr.deeper _, hS.nd, PassesOwn.never⟩
    have s0 : SR K mg [] [] H := ⟨List.nodup_nil, rfl, (by intro a z; cases z), fun n o e => by simp at e⟩
    have r0 : Rps K [] H [D.lst (ns.map .int)] [V.ref a] := ⟨_, _, rfl, ⟨a, _, rfl, script, Rps.of_ints ns⟩, rfl⟩
    refine ⟨_, body base _ kb gb rfl rfl rfl rfl rfl c rfl rfl, [], frame0 N.length [.lst (ns.map .int)], [], s0, FR_start r0, out_ends (N := N) (ds := [.lst (ns.map .int)]) (Q := fun v _ => v = .bl true) (W := W0) (E := fun _ _ _ => False) (Po.nox (e := fun _ _ _ _ => False) ?_) fun _ _ _ _ z => z⟩
    show Po K mg [] H (defF N.length B [.lst (ns.map .int)] []) _ _
    rw [hS']
    exact fun ι' H' m' s' v r => r
end DL
namespace DL
open PySem PySem.Spec PyProof.Rows L2
open SeqAt (shaped)
/-! ### repr -/
def reprOk (p : PyData) : Prop := p.showable = true ∧ p.hasDict = false ∧ p.depth ≤ 60 ∧ p.shown.length ≤ sizeLine
instance (p : PyData) : Decidable (reprOk p) := by unfold reprOk; infer_instance
def reprD (xs : List D) : M D := fun S => match xs with
  | [d] => (match pyS S d with
    | some p => if reprOk p then .ok (.str p.shown) S else .bad
    | none => .bad)
  | _ => .bad
section
variable {X : Cx} {W : WE}
theorem CalD.base {f : Value} {g : List D → M D}
    (h : ∀ pins s σ H xs us (Q : VK) ι S ds e, Inv X pins σ H s → Vals xs us → SR X.K X.mg ι S H → Rps X.K ι H ds xs → Po X.K X.mg ι H (g ds S) (kE X.K Q) e → wpAny (model X.prog X.w) X.A (call f us) (EP X pins σ Q) X.xe s) :
    CalD X W f g := by
  refine ⟨fun xs H Q => ∃ ι S ds e, SR X.K X.mg ι S H ∧ Rps X.K ι H ds xs ∧ Po X.K X.mg ι H (g ds S) (kE X.K Q) e, ?_, ?_⟩
  · rintro pins s σ H xs us Q I rx ⟨ι, S, ds, e, h1, h2, h3⟩
    exact h pins s σ H xs us Q ι S ds e I rx h1 h2 h3
  · intro ι S H σ xs vs Q h1 h2 h3
    exact ⟨ι, S, xs, _, h1, h2, h3.imp (fun d _ _ _ _ _ z w r => .inl (z w r)) fun _ _ _ _ _ _ z => z⟩
theorem C_repr (hg : X.A.guards = some []) (hu : X.A.units + 64 < cLine) : CalD X W (.builtin "repr") reprD := by
  refine CalD.base fun pins s σ H xs us Q ι S ds e I rx hS r h => ?_
  unfold reprD at h
  split at h
  · rename_i d
    obtain ⟨v, w, rfl, r1, r2⟩ := r
    cases r2
    cases rx with
    | cons ru rr =>
      cases rr
      rename_i u us'
      split at h
      · rename_i p hp
        split at h
        · rename_i ok
          obtain ⟨h1, h2, h3, h4⟩ := ok
          obtain ⟨as, rd⟩ := pyS_reads I hS r1 ru hp
          have q : Q (.str p.shown) H := h.ok hS _ rfl
          have fin : ∀ t, EP X pins σ Q (.str p.shown t) { s with toks := s.toks + 1 } := fun t => ⟨.str p.shown, H, I.tok _, ⟨_, rfl⟩, q⟩
          have fin2 : ∀ (h' : Heap) u tk, (∀ b o, s.heap.get? b = some o → h'.get? b = some o) → EP X pins σ Q (.str p.shown u) { s with heap := h', toks := tk } := fun h' u tk k => ⟨.str p.shown, H, I.kept k, ⟨_, rfl⟩, q⟩
          cases rd with
          | none => exact PySem.P.repr_of_none (fin _)
          | bool b => exact PySem.P.repr_of_bool (fin _)
          | int i t => exact PySem.P.repr_of_int (by simpa [PyData.showable] using h1) (fin _)
          | str x t => exact PySem.P.repr_of_str (fin _) h4
          | list g1 g2 g3 g4 => exact repr_of_reads' (.list g1 g2 g3 g4) h1 (PyData.noDict_hsm h2) hg (by omega) (fun _ _ z => z) fin2 h4
          | tuple g1 g2 g3 g4 => exact repr_of_reads' (.tuple g1 g2 g3 g4) h1 (PyData.noDict_hsm h2) hg (by omega) (fun _ _ z => z) fin2 h4
          | dict g1 g2 g3 g4 g5 => simp [PyData.hasDict] at h2
        · exact h.bad
      · exact h.bad
  · exact h.bad
end
end DL
namespace DL
open PySem PySem.Spec PyProof.Rows L2
open SeqAt (shaped)
/-! ### methods of built-in types -/
def tyM (K : PySem.W.Frag) (T : String) (x : V) (H : Hp) : Prop := match x with
  | .str _ => T = "str"
  | .ref p => (T = "list" ∧ ∃ xs, SqL K H p xs) ∨ (T = "dict" ∧ ((∃ kvs, H p = some (.dK kvs)) ∨ ∃ kvs, H p = some (.dT kvs)))
  | _ => False
def tyR (S : Store) (T : String) : D → Bool
  | .str _ => T == "str"
  | .lst _ => T == "list"
  | .ob n => (T == "list" || T == "dict") && oTy S[n]? == some T
  | _ => false
def tyCk (T : String) (d : D) : M Unit := fun S => if tyR S T d = true then .ok () S else .bad
def metF (T : String) (g : D → List D → M D) (f : Frame → M D) (fs : List (Frame → M D)) : Frame → M D := fun fr => bnd (f fr) fun o => bnd (tyCk T o) fun _ => bnd (seqA fs fr) fun xs => g o xs
def MtD (X : Cx) (W : WE) (id : String) (g : D → List D → M D) : Prop :=
  ∃ r, MtR X id r ∧ ∀ ι S H σ x xs v vs Q, SR X.K X.mg ι S H → Rp X.K ι H x v → Rps X.K ι H xs vs → Po X.K X.mg ι H (g x xs S) (kE X.K Q) (kX X.K X.mg W σ) → r v vs H (Fz Q)
section
variable {X : Cx} {W : WE} {a b c e o : Expr} {pos apos cpos : Pos} {fa fb fc : Frame → M D} {ι : List Addr} {H : Hp} {σ : L2.St} {s : Shared} {pins : List (Addr × Obj)} {es : List Expr} {fs : List (Frame → M D)} {T id : String} {name : Str}
theorem tyM_ok : TyOk X T (tyM X.K T) := by
  intro pins σ H s x v I r ty
  refine tyV_is I r ?_
  cases x with
  | str z => exact ty
  | ref p =>
    rcases ty with ⟨h, h2⟩ | ⟨h, h2⟩
    · exact .inl ⟨h, h2⟩
    · exact .inr (.inr (.inl ⟨h, h2⟩))
  | _ => exact ty.elim
theorem tyR_at {ι : List Addr} {S : Store} {d : D} {v : V} (s : SR X.K X.mg ι S H) (r : Rp X.K ι H d v) (h : tyR S T d = true) : tyM X.K T v H := by
  cases d with
  | str z => cases r; exact eq_of_beq h
  | lst l => obtain ⟨p, vs, rfl, hq, _⟩ := r; exact .inl ⟨eq_of_beq h, _, hq.sq⟩
  | ob n =>
    obtain ⟨p, rfl, hi⟩ := r
    have h' : ((T == "list" || T == "dict") && oTy S[n]? == some T) = true := h
    obtain ⟨_, h2⟩ := Bool.and_eq_true_iff.mp h'
    have h2 := eq_of_beq h2
    cases e : S[n]? with
    | none => rw [e] at h2; cases h2
    | some x =>
      rw [e] at h2
      cases x with
      | none => cases h2
      | some o =>
        obtain ⟨b, e1, q⟩ := s.obj n _ e
        rw [hi] at e1; cases e1
        cases o with
        | lst l => cases h2; obtain ⟨vs, hq, _⟩ := q; exact .inl ⟨rfl, _, .of hq⟩
        | dk l => cases h2; obtain ⟨vs, hq, _⟩ := q; exact .inr ⟨rfl, .inl ⟨_, hq⟩⟩
        | dt l => cases h2; obtain ⟨vs, hq, _⟩ := q; exact .inr ⟨rfl, .inr ⟨_, hq⟩⟩
        | ins c fs => cases h2
  | _ => cases h
theorem ck_at {α : Type} {S : Store} {d : D} {v : V} {g : M α} {k : α → Store → List Addr → Hp → Prop} {x : Exc → Store → List Addr → Hp → Prop} (s : SR X.K X.mg ι S H) (r : Rp X.K ι H d v) (h : Po X.K X.mg ι H (bnd (tyCk T d) (fun _ => g) S) k x) : tyM X.K T v H ∧ Po X.K X.mg ι H (g S) k x := by
  unfold bnd tyCk at h
  by_cases q : tyR S T d = true
  · rw [if_pos q] at h; exact ⟨tyR_at s r q, h⟩
  · rw [if_neg q] at h; exact h.bad
theorem DE_met0 {g : D → List D → M D} (pa : PlainAttrs T) (slot : Slot T name id) (hty : typeOf (.builtin id) = pure (.type "method_descriptor")) (hm : MtD X W id g) (ho : DE X W fa o)
    (hbase : attributeBase o name X.env (eval o X.env) = eval o X.env := by rfl) (hline : (apos.endLine == cpos.line) = true := by rfl) : DE X W (metF T g fa []) (.Call (.Attribute o name apos) [] [] cpos) := by
  obtain ⟨r, h1, h2⟩ := hm
  refine DE.of (pe_mG0 tyM_ok pa slot hty h1 ho hbase hline) fun σ H Q ι fr S s f h => ⟨ι, fr, S, s, f, h.bnd.imp (fun d S1 ι1 H1 m1 s1 q v r1 => ?_) fun _ _ _ _ _ _ z => z⟩
  obtain ⟨t1, q⟩ := ck_at s1 r1 q
  exact ⟨t1, h2 ι1 S1 H1 σ d [] v [] Q s1 r1 rfl q⟩
theorem DE_met {g : D → List D → M D} (pa : PlainAttrs T) (slot : Slot T name id) (hty : typeOf (.builtin id) = pure (.type "method_descriptor")) (hm : MtD X W id g) (ho : DE X W fa o) (ha : DA X W (seqA fs) (e :: es))
    (hbase : attributeBase o name X.env (eval o X.env) = eval o X.env := by rfl)
    (hfew : ((backTo cpos (starEach (e :: es) X.env)).all (fun x => !x.1) && (backToKw cpos (keywordEach [] X.env)).all (fun x => x.1.isSome)
      && decide ((e :: es).length + ([] : List Keyword).length + (if ([] : List Keyword).isEmpty then 0 else 1) < 30)) = true := by rfl)
    (hline : (apos.endLine == cpos.line) = true := by rfl) (hs : starEach (e :: es) X.env = (false, eval e X.env) :: starEach es X.env := by rfl) (hplain : (backTo cpos (starEach es X.env)).any (·.1) = false := by rfl) :
    DE X W (metF T g fa fs) (.Call (.Attribute o name apos) (e :: es) [] cpos) := by
  obtain ⟨r, h1, h2⟩ := hm
  refine DE.of (pe_mG tyM_ok pa slot hty h1 ho ha hbase hfew hline hs hplain) fun σ H Q ι fr S s f h => ⟨ι, fr, S, s, f, h.bnd.imp (fun d S1 ι1 H1 m1 s1 q v r1 => ?_) fun _ _ _ _ _ _ z => z⟩
  obtain ⟨t1, q⟩ := ck_at s1 r1 q
  exact ⟨t1, ι1, fr, S1, s1, m1.fr f, q.bnd.imp (fun xs S2 ι2 H2 m2 s2 q2 vs r2 => h2 ι2 S2 H2 σ d xs v vs Q s2 (m2.rp r1) r2 q2) fun _ _ _ _ _ _ z => z⟩
theorem MtD.base {g : D → List D → M D}
    (h : ∀ pins s σ H x xs (Q : VK) ι S d ds e v us, Inv X pins σ H s → RelV x v → Vals xs us → SR X.K X.mg ι S H → Rp X.K ι H d x → Rps X.K ι H ds xs → Po X.K X.mg ι H (g d ds S) (kE X.K Q) e → wpAny (model X.prog X.w) X.A (call (.builtin id) (v :: us)) (EP X pins σ Q) X.xe s) :
    MtD X W id g := by
  refine ⟨fun x xs H Q => ∃ ι S d ds e, SR X.K X.mg ι S H ∧ Rp X.K ι H d x ∧ Rps X.K ι H ds xs ∧ Po X.K X.mg ι H (g d ds S) (kE X.K Q) e, ?_, ?_⟩
  · rintro pins s σ H x xs v us Q I r rx ⟨ι, S, d, ds, e, h1, h2, h3, h4⟩
    exact h pins s σ H x xs Q ι S d ds e v us I r rx h1 h2 h3 h4
  · intro ι S H σ x xs v vs Q h1 h2 h3 h4
    exact ⟨ι, S, x, xs, _, h1, h2, h3, h4.imp (fun d _ _ _ _ _ z w r => .inl (z w r)) fun _ _ _ _ _ _ z => z⟩
/-- l.append(x) of a list of the store -/
def appD (d : D) (xs : List D) : M D := fun S => match d, xs with
  | .ob n, [x] => match oLst S[n]? with
    | some l => if l.length < sizeLine then .ok .non (S.set n (some (.lst (l ++ [x])))) else .bad
    | none => .bad
  | _, _ => .bad
theorem M_app : MtD X W "list.append" appD := by
  refine ⟨_, mt_append, fun ι S H σ d xs v vs Q s r rs h => ?_⟩
  unfold appD at h
  split at h
  · rename_i n x
    obtain ⟨p, rfl, hi⟩ := r
    obtain ⟨w, t, rfl, rw', rt⟩ := rs
    cases rt
    split at h
    · rename_i l hl
      split at h
      · rename_i hz
        have hS := oLst_of hl
        obtain ⟨b, e1, us, hb, ru⟩ := s.obj n _ hS
        rw [hi] at e1; cases e1
        have m := Mn.write (u := .lst (us ++ [w])) s hi hS
        refine ⟨p, us, w, rfl, rfl, hb, by rw [← ru.length]; exact hz, .inl (h ι _ m (s.write hi hS (by intro _ z; cases z) fun o ho => ?_) _ rfl)⟩
        cases ho
        exact ⟨_, upd_same, (m.rps ru).app ⟨w, [], rfl, m.rp rw', rfl⟩⟩
      · exact h.bad
    · exact h.bad
  · exact h.bad
theorem Rps.erase {K : PySem.W.Frag} {ι : List Addr} {H : Hp} : ∀ {ds : List D} {vs : List V} (n : Nat), Rps K ι H ds vs → Rps K ι H (ds.eraseIdx n) (vs.eraseIdx n)
  | [], _, _, h => by subst h; simp [Rps]
  | d :: ds, _, 0, h => by obtain ⟨v, r, rfl, _, h2⟩ := h; exact h2
  | d :: ds, _, n + 1, h => by obtain ⟨v, r, rfl, h1, h2⟩ := h; exact ⟨v, _, rfl, h1, Rps.erase n h2⟩
/-- l.pop(i) -/
def popD (d : D) (xs : List D) : M D := fun S => match d, xs with
  | .ob n, [.int i] => match oLst S[n]? with
    | some l => if -(2 ^ 63) ≤ i ∧ i < 2 ^ 63 then (match seqIndex? i l.length with
      | some k => (match l[k]? with
        | some x => .ok x (S.set n (some (.lst (l.eraseIdx k))))
        | none => .bad)
      | none => .bad) else .bad
    | none => .bad
  | _, _ => .bad
theorem M_pop : MtD X W "list.pop" popD := by
  refine ⟨_, mt_popAt, fun ι S H σ d xs v vs Q s r rs h => ?_⟩
  unfold popD at h
  split at h
  · rename_i n i
    obtain ⟨p, rfl, hi⟩ := r
    obtain ⟨w, t, rfl, rw', rt⟩ := rs
    cases rt; cases rw'
    split at h
    · rename_i l hl
      split at h
      · rename_i hb
        split at h
        · rename_i k hk
          split at h
          · rename_i x hx
            have hS := oLst_of hl
            obtain ⟨b, e1, us, hb2, ru⟩ := s.obj n _ hS
            rw [hi] at e1; cases e1
            obtain ⟨y, hy, ry⟩ := ru.get hx
            have m := Mn.write (u := .lst (us.eraseIdx k)) s hi hS
            refine ⟨p, us, i, k, y, rfl, rfl, hb2, hb.1, hb.2, by rw [← ru.length]; exact hk, hy, .inl (h ι _ m (s.write hi hS (by intro _ z; cases z) fun o ho => ?_) _ (m.rp ry))⟩
            cases ho
            exact ⟨_, upd_same, (m.rps ru).erase k⟩
          · exact h.bad
        · exact h.bad
      · exact h.bad
    · exact h.bad
  · exact h.bad
/-- l.count(x) -/
def cntD (d : D) (xs : List D) : M D := fun S => match xs with
  | [y] => match pyS S d, pyS S y with
    | some (.list ds), some p => if shaped p = true ∧ shaped (.list ds) = true then .ok (.int (ds.countP fun z => PyData.eqv z p : Nat)) S else .bad
    | _, _ => .bad
  | _ => .bad
theorem pyS_listL {S : Store} {d : D} {ds : List PyData} (h : pyS S d = some (.list ds)) : ∃ l, lstL S d = some l ∧ pys l = some ds := by
  cases d with
  | ob n =>
    rw [pyS_ob] at h
    cases e : oLst S[n]? with
    | none => rw [e] at h; cases h
    | some l =>
      rw [e] at h
      simp only [Option.bind_some, Option.map_eq_some_iff] at h
      obtain ⟨q, hq, e2⟩ := h
      cases e2
      exact ⟨l, e, hq⟩
  | lst l =>
    simp only [pyS, py, Option.map_eq_some_iff] at h
    obtain ⟨q, hq, e2⟩ := h
    cases e2
    exact ⟨l, rfl, hq⟩
  | tup l =>
    simp only [pyS, py, Option.map_eq_some_iff] at h
    obtain ⟨q, hq, e2⟩ := h
    cases e2
  | _ => simp [pyS, py] at h
theorem M_cnt (hu : X.A.units + 65 < cLine) : MtD X W "list.count" cntD := by
  refine MtD.base fun pins s σ H x xs Q ι S d ds e v us I rv rx hS r rs h => ?_
  unfold cntD at h
  split at h
  · rename_i y
    split at h
    · rename_i ps p hp hq
      split at h
      · rename_i hs
        obtain ⟨l, hl, hpl⟩ := pyS_listL hp
        obtain ⟨a, vs, rfl, hsq, rl⟩ := lst_at hS r hl
        cases rv
        obtain ⟨w, t, rfl, ry, rt⟩ := rs
        cases rt
        cases rx with
        | cons rw' rr =>
          rename_i uy ut
          cases rr
          obtain ⟨bs, w1⟩ := pyS_reads I hS ry rw' hq
          obtain ⟨its, rvs, ⟨⟨cls, dd, data, sls⟩, n, ho, hc, hdn, hdt⟩, hlen⟩ := I.list hsq
          simp only at hc hdt
          subst hc hdt
          obtain ⟨as, h4⟩ := pys_reads I l _ its ps rl rvs hpl
          have hxs : PyData.canLayAll0 ps = true := SeqAt.canLay_of_shaped hs.2
          have hroom : X.A.units + 1 + min (PyData.depthAll ps) p.depth < cLine := room_in_shaped hs.1 hu
          have hmap : its.map (SeqAt.readOf s.heap) = ps := SeqAt.readsAll_map ps its as hxs h4
          refine call_meets PySem.F.slot_list_count ⟨_, ho, rfl⟩ PySem.F.entry_list_count (PySem.F.args_list_count_2 _ _)
            (SeqAt.list_countAt a its.toArray n dd sls uy (fun u => PyData.eqv (SeqAt.readOf s.heap u) p)) ⟨ho, SeqAt.items_eqAt (vs := its.toArray) (show ReadsAll s.heap its.toArray.toList ps as from h4) w1 hxs (SeqAt.canLay_of_shaped hs.1) hroom, ?_⟩
          have ec : its.toArray.toList.countP (fun u => PyData.eqv (SeqAt.readOf s.heap u) p) = ps.countP fun z => PyData.eqv z p := by
            rw [← hmap, List.countP_map]
            rfl
          rw [ec]
          exact ⟨.int _, H, I.tok _, ⟨_, rfl⟩, h.ok hS _ rfl⟩
      · exact h.bad
    · exact h.bad
  · exact h.bad
/-- s.index(t) where it is found -/
def sixD (d : D) (xs : List D) : M D := fun S => match d, xs with
  | .str a, [.str b] => match Builtin.Str.occurrences a b 0 a.length 1 with
    | i :: _ => .ok (.int (i : Nat)) S
    | [] => .bad
  | _, _ => .bad
theorem M_six : MtD X W "str.index" sixD := by
  refine ⟨_, mt_sindex, fun ι S H σ d xs v vs Q s r rs h => ?_⟩
  unfold sixD at h
  split at h
  · rename_i a b
    cases r
    obtain ⟨w, t, rfl, rw', rt⟩ := rs
    cases rt; cases rw'
    split at h
    · rename_i i q ho
      exact ⟨_, _, i, _, rfl, rfl, ho, .inl (h.ok s _ rfl)⟩
    · exact h.bad
  · exact h.bad

/-! ### o[i] = e -/
def setD (o i x : D) : M Unit := fun S => match o, i with
  | .ob n, .int k => match oLst S[n]? with
    | some l => (match ixN l.length k with
      | some j => .ok () (S.set n (some (.lst (l.set j x))))
      | none => .bad)
    | none => .bad
  | _, _ => .bad
def tgSub (fo fi : Frame → M D) : D → Frame → M Frame := fun d fr => bnd (nox (fo fr)) fun o => bnd (nox (fi fr)) fun i => bnd (setD o i d) fun _ => ret fr
theorem Po.noxk {α : Type} {m : M α} {S : Store} {k : α → Store → List Addr → Hp → Prop} {e e' : Exc → Store → List Addr → Hp → Prop} (h : Po X.K X.mg ι H (DL.nox m S) k e) : Po X.K X.mg ι H (m S) k e' := Po.nox h
theorem DG_sub (ho : DE X W fa a) (hi : DE X W fb b)
    (has : ∀ v, assign (.Subscript a b pos) X.env v = (do
      let ov ← holding [v] (eval a X.env)
      let iv ← holding [v, ov] (eval b X.env)
      standAt pos
      holding [v, ov, iv] (setItem ov iv v)
      release [v, ov, iv] []) := by intro _; rfl) : DG X [] (tgSub fa fb) (.Subscript a b pos) := by
  refine ⟨fun pins s σ H v u Q I r h => ?_⟩
  obtain ⟨ι, fr, S, d, hS, hF, hr, h⟩ := h
  refine (pg_sub ho hi set_list has).run pins s σ H v u Q I r ?_
  refine ⟨ι, fr, S, hS, hF, ?_⟩
  refine Po.noxk (e := fun _ _ _ _ => False) ?_
  refine Po.imp (Po.bnd h) (fun o S1 ι1 H1 m1 s1 h1 ov ro => ?_) (fun _ _ _ _ _ _ z => z)
  refine ⟨ι1, fr, S1, s1, m1.fr hF, ?_⟩
  refine Po.noxk (e := fun _ _ _ _ => False) ?_
  refine Po.imp (Po.bnd h1) (fun i S2 ι2 H2 m2 s2 h2 iv ri => ?_) (fun _ _ _ _ _ _ z => z)
  have ro2 := m2.rp ro
  have h2' := h2.bndE
  unfold setD at h2'
  split at h2'
  · rename_i n k
    cases ri
    obtain ⟨p, rfl, hix⟩ := ro2
    split at h2'
    · rename_i l hl
      split at h2'
      · rename_i j hj
        have hSn := oLst_of hl
        obtain ⟨c, e1, us, hb, ru⟩ := s2.obj n _ hSn
        rw [hix] at e1; cases e1
        have rv2 := (m1.trans m2).rp hr
        have m := Mn.write (u := .lst (us.set j v)) s2 hix hSn
        refine ⟨p, us, k, j, rfl, rfl, hb, by rw [← ru.length]; exact hj, ?_⟩
        have s3 : SR X.K X.mg ι2 (S2.set n (some (.lst (l.set j d)))) (upd H2 p (.lst (us.set j v))) := s2.write hix hSn (by intro _ z; cases z) fun o ho => by
          cases ho
          exact ⟨_, upd_same, (m.rps ru).set (m.rp rv2) j⟩
        exact (h2' _ _ m s3).2.ok s3 σ (((m1.trans m2).trans m).fr hF) Tch.refl
      · exact h2'.bad
    · exact h2'.bad
  · exact h2'.bad

/-! ### a, b = x, y -/
def setAll (fr : Frame) : List Nat → List D → Frame
  | i :: is, d :: ds => setAll (fr.set i (some d)) is ds
  | _, _ => fr
def parF (is : List Nat) (fs : List (Frame → M D)) : SM := fun fr S => exS (seqA fs fr S) fr fun l S' => .ok .nx (setAll fr is l) S'
theorem DS_par {i j : Nat} {x y : Str} {px py pt : Pos} {kt k2 pt2} (hc : X.calm = true) (hN : X.N.Nodup) (hi : X.N[i]? = some x) (hj : X.N[j]? = some y) (hij : i ≠ j)
    (hx : X.env.scope.names.lookup x = some .local) (hy : X.env.scope.names.lookup y = some .local) (ha : DA X W (seqA [fa, fb]) [a, b])
    (hw : swappedStores [.Tuple [.Name x px, .Name y py] kt pt] (.Tuple [a, b] k2 pt2) X.env = pure (some [x, y]))
    (hs : swapsWithSole [.Tuple [.Name x px, .Name y py] kt pt] (.Tuple [a, b] k2 pt2) pos.line X.env = pure false := by rfl) :
    DS X W (parF [i, j] [fa, fb]) (.Assign [.Tuple [.Name x px, .Name y py] kt pt] (.Tuple [a, b] k2 pt2) pos) := by
  refine DS.of (ps_par hc hN hi hj hij hx hy ha hw hs) fun D σ H ι fr S s f h => ⟨ι, fr, S, s, f, (h.exE f).imp (fun l S1 ι1 H1 m1 s1 q1 vs r => ?_) fun _ _ _ _ _ _ z => z⟩
  obtain ⟨hl, q⟩ := q1
  have len := seqA_len hl
  match l, len, r with
  | [d1, d2], _, r =>
    obtain ⟨v1, t1, rfl, r1, v2, t2, rfl, r2, rt⟩ := r
    cases rt
    exact ⟨v1, v2, rfl, q.ok s1 (((m1.fr f).set r1).set r2)⟩
theorem DS_par3 {i j l : Nat} {x y z : Str} {px py pz pt : Pos} {kt k2 pt2} (hc : X.calm = true) (hN : X.N.Nodup) (hi : X.N[i]? = some x) (hj : X.N[j]? = some y) (hl : X.N[l]? = some z) (hij : i ≠ j) (hil : i ≠ l) (hjl : j ≠ l)
    (hx : X.env.scope.names.lookup x = some .local) (hy : X.env.scope.names.lookup y = some .local) (hz : X.env.scope.names.lookup z = some .local) (ha : DA X W (seqA [fa, fb, fc]) [a, b, c])
    (hw : swappedStores [.Tuple [.Name x px, .Name y py, .Name z pz] kt pt] (.Tuple [a, b, c] k2 pt2) X.env = pure (some [x, y, z]))
    (hs : swapsWithSole [.Tuple [.Name x px, .Name y py, .Name z pz] kt pt] (.Tuple [a, b, c] k2 pt2) pos.line X.env = pure false := by rfl) :
    DS X W (parF [i, j, l] [fa, fb, fc]) (.Assign [.Tuple [.Name x px, .Name y py, .Name z pz] kt pt] (.Tuple [a, b, c] k2 pt2) pos) := by
  refine DS.of (ps_par3 hc hN hi hj hl hij hil hjl hx hy hz ha hw hs) fun D σ H ι fr S s f h => ⟨ι, fr, S, s, f, (h.exE f).imp (fun l S1 ι1 H1 m1 s1 q1 vs r => ?_) fun _ _ _ _ _ _ z => z⟩
  obtain ⟨hl, q⟩ := q1
  have len := seqA_len hl
  match l, len, r with
  | [d1, d2, d3], _, r =>
    obtain ⟨v1, t1, rfl, r1, v2, t2, rfl, r2, v3, t3, rfl, r3, rt⟩ := r
    cases rt
    exact ⟨v1, v2, v3, rfl, q.ok s1 ((((m1.fr f).set r1).set r2).set r3)⟩

/-! ### x op= e -/
def augF (i : Nat) (g : D → D → M D) (f : Frame → M D) : SM := fun fr S => match fr[i]? with
  | some (some x) => exS (f fr S) fr fun y S1 => exS (g x y S1) fr fun z S2 => .ok .nx (fr.set i (some z)) S2
  | _ => .bad
def iaddD (x y : D) : M D := fun S => match x, y with
  | .int i, .int j => .ok (.int (i + j)) S
  | _, _ => .bad
def isubD (x y : D) : M D := fun S => match x, y with
  | .int i, .int j => .ok (.int (i - j)) S
  | _, _ => .bad
def IpD (X : Cx) (W : WE) (op : Operator) (g : D → D → M D) : Prop :=
  ∃ t, PIp X op t ∧ ∀ ι S H σ x y v u Q, SR X.K X.mg ι S H → Rp X.K ι H x v → Rp X.K ι H y u → Po X.K X.mg ι H (g x y S) (kE X.K Q) (kX X.K X.mg W σ) → t v u H Q
theorem Ip_add : IpD X W .Add iaddD := by
  refine ⟨_, ip_add, fun ι S H σ x y v u Q s r1 r2 h => ?_⟩
  unfold iaddD at h
  split at h
  · cases r1; cases r2; exact ⟨_, _, rfl, rfl, h.ok s _ rfl⟩
  · exact h.bad
theorem Ip_sub : IpD X W .Sub isubD := by
  refine ⟨_, ip_sub, fun ι S H σ x y v u Q s r1 r2 h => ?_⟩
  unfold isubD at h
  split at h
  · cases r1; cases r2; exact ⟨_, _, rfl, rfl, h.ok s _ rfl⟩
  · exact h.bad
theorem DS_aug {i : Nat} {x : Str} {op : Operator} {g : D → D → M D} {pos' : Pos} (hN : X.N.Nodup) (hi : X.N[i]? = some x) (hx : Loc X.env.scope x) (he : DE X W fa e) (ho : IpD X W op g) (hf : X.fn x = true ∨ X.env.scope.names.lookup x = some .local := by first | exact .inl rfl | exact .inr rfl | assumption) :
    DS X W (augF i g fa) (.AugAssign (.Name x pos') op e pos) := by
  obtain ⟨t, h1, h2⟩ := ho
  refine DS.of (ps_aug hN hi hx he h1 hf) fun D σ H ι fr S s f h => ?_
  unfold augF at h
  split at h
  · rename_i d hd
    obtain ⟨v, hv, rv⟩ := f.2 i d hd
    refine ⟨v, hv, ι, fr, S, s, f, (h.ex f).imp (fun y S1 ι1 H1 m1 s1 q u ru => ?_) fun _ _ _ _ _ _ z => z⟩
    refine h2 ι1 S1 H1 σ d y v u _ s1 (m1.rp rv) ru ((q.ex (m1.fr f)).imp (fun z S2 ι2 H2 m2 s2 q2 w rw' => q2.ok s2 (FR.set ((m1.trans m2).fr f) rw')) fun _ _ _ _ _ _ z => z)
  · exact h.elim

/-! ### values of the module -/
theorem DE_glob {x : Str} {u : Value} {v : V} {d : D} (hg : Gl X x) (hm : X.mg x = some u) (r : RelV v u) (rd : ∀ ι H, Rp X.K ι H d v) (hd : (x == ("__debug__" : Str)) = false := by decide) : DE X W (cstF d) (.Name x pos) :=
  DE_cst (pe_glob hg hm r hd) rd
end
end DL
namespace DL
open PySem PySem.Spec PyProof.Rows L2
open SeqAt (shaped)
section
variable {X : Cx} {W : WE} {N : List Str} {sc : Scope} {b : Option Scope} {k : Nat} {e e1 e2 e3 o : Expr} {es : List Expr} {pos p apos cpos : Pos} {fe f1 f2 f3 : Frame → M D} {fs : List (Frame → M D)} {i j l : Nat} {x y z : Str}
abbrev LcP (sc : Scope) (b : Option Scope) (x : Str) : Prop := sc.names.lookup x = some .local ∨ (sc.names.lookup x = some .cell ∧ fnS b x = true)
theorem CxD.for_ {tg iter : Expr} {body : List Stmt} {fi : Frame → M Src} {n : List Nat} {g : D → Frame → M Frame} {f : SM} (c : CxD X N sc b k) (hi : DI X W fi tg iter) (hg : DG X n g tg) (hb : DSs X W f body)
    (hs : ∀ x, foldedSetIterable iter X.env x = pure x := by intro _; rfl) : DS X W (forF fi g f) (.For tg iter body [] pos) := DS_for c.own c.calm hi hg hb hs
theorem CxD.tup {ts : List Expr} {q : Nat} {n : List Nat} {gs : List (D → Frame → M Frame)} (c : CxD X N sc b k) (h : DGs X n gs ts) (hl : ts.length = gs.length := by rfl)
    (hn : (assignEach ts X.env).length = ts.length := by rfl) (hst : (assignEach ts X.env).findIdx? (·.1) = none := by rfl) : DG X n (tgTup gs) (.Tuple ts q pos) := DG_tup c.calm h hl hn hst
theorem CxD.par {px py pt : Pos} {kt k2 pt2} (c : CxD X N sc b k) (hx : NL N sc i x) (hy : NL N sc j y) (lx : sc.names.lookup x = some .local) (ly : sc.names.lookup y = some .local) (ha : DA X W (seqA [f1, f2]) [e1, e2])
    (hw : ∀ env : Env, env.scope = sc → swappedStores [.Tuple [.Name x px, .Name y py] kt pt] (.Tuple [e1, e2] k2 pt2) env = pure (some [x, y])) (hij : i ≠ j := by decide)
    (hs : swapsWithSole [.Tuple [.Name x px, .Name y py] kt pt] (.Tuple [e1, e2] k2 pt2) pos.line X.env = pure false := by rfl) :
    DS X W (parF [i, j] [f1, f2]) (.Assign [.Tuple [.Name x px, .Name y py] kt pt] (.Tuple [e1, e2] k2 pt2) pos) :=
  DS_par c.calm c.nd (by rw [c.hN]; exact hx.ix) (by rw [c.hN]; exact hy.ix) hij (by rw [c.hsc]; exact lx) (by rw [c.hsc]; exact ly) ha (hw _ c.hsc) hs
theorem CxD.par3 {px py pz pt : Pos} {kt k2 pt2} (c : CxD X N sc b k) (hx : NL N sc i x) (hy : NL N sc j y) (hz : NL N sc l z) (lx : sc.names.lookup x = some .local) (ly : sc.names.lookup y = some .local) (lz : sc.names.lookup z = some .local) (ha : DA X W (seqA [f1, f2, f3]) [e1, e2, e3])
    (hw : ∀ env : Env, env.scope = sc → swappedStores [.Tuple [.Name x px, .Name y py, .Name z pz] kt pt] (.Tuple [e1, e2, e3] k2 pt2) env = pure (some [x, y, z])) (hij : i ≠ j := by decide) (hil : i ≠ l := by decide) (hjl : j ≠ l := by decide)
    (hs : swapsWithSole [.Tuple [.Name x px, .Name y py, .Name z pz] kt pt] (.Tuple [e1, e2, e3] k2 pt2) pos.line X.env = pure false := by rfl) :
    DS X W (parF [i, j, l] [f1, f2, f3]) (.Assign [.Tuple [.Name x px, .Name y py, .Name z pz] kt pt] (.Tuple [e1, e2, e3] k2 pt2) pos) :=
  DS_par3 c.calm c.nd (by rw [c.hN]; exact hx.ix) (by rw [c.hN]; exact hy.ix) (by rw [c.hN]; exact hz.ix) hij hil hjl (by rw [c.hsc]; exact lx) (by rw [c.hsc]; exact ly) (by rw [c.hsc]; exact lz) ha (hw _ c.hsc) hs
/-- a, b = a value that is no written pair of names' values -/
theorem CxD.asgT {tg : Expr} {n : List Nat} {g : D → Frame → M Frame} (c : CxD X N sc b k) (he : DE X W fe e) (hg : DG X n g tg) (hw : ∀ env : Env, env.scope = sc → swappedStores [tg] e env = pure none) (hs : swapsWithSole [tg] e pos.line X.env = pure false := by rfl)
    (h1 : (assignEach [tg] X.env).map (·.2) = [assign tg X.env] := by rfl) : DS X W (asgG g fe) (.Assign [tg] e pos) := DS_asg he hg hs (hw _ c.hsc) h1
theorem CxD.aug {op : Operator} {g : D → D → M D} {pos' : Pos} (c : CxD X N sc b k) (n : NL N sc i x) (hl : LcP sc b x) (he : DE X W fe e) (ho : IpD X W op g) : DS X W (augF i g fe) (.AugAssign (.Name x pos') op e pos) :=
  DS_aug c.nd (by rw [c.hN]; exact n.ix) (c.loc hl).1 he ho (c.loc hl).2
theorem CxD.rng1 {tg : Expr} (c : CxD X N sc b k) (n : NG sc "range") (hm : X.mg "range" = none) (ha : DA X W (seqA fs) [e]) (hs : starEach [e] X.env = [(false, eval e X.env)] := by rfl) : DI X W (rngF rng1 fs) tg (.Call (.Name "range" p) [e] [] pos) :=
  DI_range1 (c.gl n) hm ha hs
theorem CxD.rng2 {tg : Expr} (c : CxD X N sc b k) (n : NG sc "range") (hm : X.mg "range" = none) (ha : DA X W (seqA fs) [e1, e2]) (hs : starEach [e1, e2] X.env = [(false, eval e1 X.env), (false, eval e2 X.env)] := by rfl) (hs2 : starEach [e2] X.env = [(false, eval e2 X.env)] := by rfl) :
    DI X W (rngF rng2 fs) tg (.Call (.Name "range" p) [e1, e2] [] pos) := DI_range2 (c.gl n) hm ha hs hs2
theorem CxD.blk {scope : Scope} (c : CxD X N sc b k) {s : Shared} {H : Hp} {C : Addr} {cl : List (Str × Addr)} {fp : List Addr} : CxD (X.blk s H scope (compEnvC scope cl C X.env) fp) N (relS scope sc) (some scope) k :=
  ⟨c.hN, by rw [← c.hsc]; rfl, rfl, c.calm, c.room, c.nd, PassesOwn.never⟩
variable {tg iter elt : Expr} {ifs : List Expr} {scope : Scope} {ts : List Nat} {fi : Frame → M Src} {g : D → Frame → M Frame} {ft : Frame → M Bool} {own : List (Str × Nat)}
theorem CxD.cmp (c : CxD X N sc b k) (own : List (Str × Nat)) (hi : DI X W fi tg iter) (ok : BlkOk N sc scope own)
    (B : ∀ (s : Shared) (H : Hp) (C : Addr) (cl : List (Str × Addr)) (fp : List Addr), CxD (X.blk s H scope (compEnvC scope cl C X.env) fp) N (relS scope sc) (some scope) k →
      DG (X.blk s H scope (compEnvC scope cl C X.env) fp) ts g tg ∧ DTs (X.blk s H scope (compEnvC scope cl C X.env) fp) W0 ft ifs ∧ DE (X.blk s H scope (compEnvC scope cl C X.env) fp) W0 fe elt)
    (hts : ∀ i ∈ ts, i ∈ own.map (·.2)) (hs : ∀ x, foldedSetIterable iter X.env x = pure x := by intro _; rfl) : DE X W (cmpD (own.map (·.2)) fi g ft fe) (.ListComp elt [⟨tg, iter, ifs, 0⟩] scope pos) :=
  DE_cmp_ c.calm c.nd hi (by rw [c.hN, c.hsc]; exact ok) hts ⟨fun s H C cl fp => (B s H C cl fp c.blk).1, fun s H C cl fp => (B s H C cl fp c.blk).2.1, fun s H C cl fp => (B s H C cl fp c.blk).2.2⟩ hs
theorem CxD.cmpo (c : CxD X N sc b k) (own : List (Str × Nat)) (hi : DI X W fi tg iter) (ok : BlkOk N sc scope own)
    (B : ∀ (s : Shared) (H : Hp) (C : Addr) (cl : List (Str × Addr)) (fp : List Addr), CxD (X.blk s H scope (compEnvC scope cl C X.env) fp) N (relS scope sc) (some scope) k →
      DG (X.blk s H scope (compEnvC scope cl C X.env) fp) ts g tg ∧ DTs (X.blk s H scope (compEnvC scope cl C X.env) fp) W0 ft ifs ∧ DE (X.blk s H scope (compEnvC scope cl C X.env) fp) W0 fe elt)
    (hts : ∀ i ∈ ts, i ∈ own.map (·.2)) (hs : ∀ x, foldedSetIterable iter X.env x = pure x := by intro _; rfl) : DE X W (cmpO (own.map (·.2)) fi g ft fe) (.ListComp elt [⟨tg, iter, ifs, 0⟩] scope pos) :=
  DE_cmpO c.calm c.nd hi (by rw [c.hN, c.hsc]; exact ok) hts ⟨fun s H C cl fp => (B s H C cl fp c.blk).1, fun s H C cl fp => (B s H C cl fp c.blk).2.1, fun s H C cl fp => (B s H C cl fp c.blk).2.2⟩ hs
theorem CxD.glb {u : Value} {v : V} {d : D} (c : CxD X N sc b k) (n : NG sc x) (hm : X.mg x = some u) (r : RelV v u) (rd : ∀ ι H, Rp X.K ι H d v) : DE X W (cstF d) (.Name x pos) := DE_glob (c.gl n) hm r rd n.d1
theorem CxD.gstr {s : Str} (c : CxD X N sc b k) (n : NG sc x) (hm : ∃ t, X.mg x = some (.str s t)) : DE X W (cstF (.str s)) (.Name x pos) := by
  obtain ⟨t, hm⟩ := hm
  exact DE_glob (c.gl n) hm (v := .str s) ⟨t, rfl⟩ (fun _ _ => rfl) n.d1
theorem CxD.isi {T : String} {TN : Str} {p2 : Pos} (c : CxD X N sc b k) (n : NG sc "isinstance") (n2 : NG sc TN) (hm : X.mg "isinstance" = none) (hTm : X.mg TN = none) (he : DE X W fe e) (hv : bootBuiltins TN = some (.type T))
    (h1 : starEach [e, .Name TN p2] X.env = (false, eval e X.env) :: starEach [.Name TN p2] X.env := by rfl) (h2 : starEach [.Name TN p2] X.env = (false, eval (.Name TN p2) X.env) :: starEach [] X.env := by rfl) (hpl : (backTo pos (starEach [.Name TN p2] X.env)).any (·.1) = false := by rfl) :
    DE X W (unF (isiD T) fe) (.Call (.Name "isinstance" p) [e, .Name TN p2] [] pos) := DE_isi he (c.gl n) hm (c.gl n2) hTm hv n2.nn n2.d1 h1 h2 hpl
end
theorem bt_abs : bootBuiltins "abs" = some (.builtin "abs") := by decide +kernel
theorem bt_len : bootBuiltins "len" = some (.builtin "len") := by decide +kernel
theorem bt_max : bootBuiltins "max" = some (.builtin "max") := by decide +kernel
theorem bt_min : bootBuiltins "min" = some (.builtin "min") := by decide +kernel
theorem bt_sum : bootBuiltins "sum" = some (.builtin "sum") := by decide +kernel
theorem bt_any : bootBuiltins "any" = some (.builtin "any") := by decide +kernel
theorem bt_all : bootBuiltins "all" = some (.builtin "all") := by decide +kernel
theorem bt_repr : bootBuiltins "repr" = some (.builtin "repr") := by decide +kernel
theorem bt_sorted : bootBuiltins "sorted" = some (.builtin "sorted") := by decide +kernel
theorem bt_int : bootBuiltins "int" = some (.type "int") := by decide +kernel
theorem bt_str : bootBuiltins "str" = some (.type "str") := by decide +kernel
theorem bt_bool : bootBuiltins "bool" = some (.type "bool") := by decide +kernel
theorem bt_list : bootBuiltins "list" = some (.type "list") := by decide +kernel
theorem bt_tuple : bootBuiltins "tuple" = some (.type "tuple") := by decide +kernel
theorem bt_dict : bootBuiltins "dict" = some (.type "dict") := by decide +kernel
section
variable {X : Cx} {W : WE} {N : List Str} {sc : Scope} {b : Option Scope} {k : Nat} {e o : Expr} {es : List Expr} {apos cpos : Pos} {fa : Frame → M D} {fs : List (Frame → M D)}
/-- what every argument list of a method needs -/
abbrev Few (X : Cx) (e : Expr) (es : List Expr) (cpos : Pos) : Prop := ((backTo cpos (starEach (e :: es) X.env)).all (fun x => !x.1) && (backToKw cpos (keywordEach [] X.env)).all (fun x => x.1.isSome)
      && decide ((e :: es).length + ([] : List Keyword).length + (if ([] : List Keyword).isEmpty then 0 else 1) < 30)) = true
theorem DE_append (ho : DE X W fa o) (ha : DA X W (seqA fs) (e :: es)) (hbase : attributeBase o "append" X.env (eval o X.env) = eval o X.env := by rfl) (hfew : Few X e es cpos := by rfl) (hline : (apos.endLine == cpos.line) = true := by rfl)
    (hs : starEach (e :: es) X.env = (false, eval e X.env) :: starEach es X.env := by rfl) (hplain : (backTo cpos (starEach es X.env)).any (·.1) = false := by rfl) : DE X W (metF "list" appD fa fs) (.Call (.Attribute o "append" apos) (e :: es) [] cpos) :=
  DE_met PySem.F.plainAttrs_list PySem.F.slot_list_append PySem.F.type_list_append M_app ho ha hbase hfew hline hs hplain
theorem DE_pop (ho : DE X W fa o) (ha : DA X W (seqA fs) (e :: es)) (hbase : attributeBase o "pop" X.env (eval o X.env) = eval o X.env := by rfl) (hfew : Few X e es cpos := by rfl) (hline : (apos.endLine == cpos.line) = true := by rfl)
    (hs : starEach (e :: es) X.env = (false, eval e X.env) :: starEach es X.env := by rfl) (hplain : (backTo cpos (starEach es X.env)).any (·.1) = false := by rfl) : DE X W (metF "list" popD fa fs) (.Call (.Attribute o "pop" apos) (e :: es) [] cpos) :=
  DE_met PySem.F.plainAttrs_list PySem.F.slot_list_pop PySem.F.type_list_pop M_pop ho ha hbase hfew hline hs hplain
theorem DE_count (hu : X.A.units + 65 < cLine) (ho : DE X W fa o) (ha : DA X W (seqA fs) (e :: es)) (hbase : attributeBase o "count" X.env (eval o X.env) = eval o X.env := by rfl) (hfew : Few X e es cpos := by rfl) (hline : (apos.endLine == cpos.line) = true := by rfl)
    (hs : starEach (e :: es) X.env = (false, eval e X.env) :: starEach es X.env := by rfl) (hplain : (backTo cpos (starEach es X.env)).any (·.1) = false := by rfl) : DE X W (metF "list" cntD fa fs) (.Call (.Attribute o "count" apos) (e :: es) [] cpos) :=
  DE_met PySem.F.plainAttrs_list PySem.F.slot_list_count PySem.F.type_list_count (M_cnt hu) ho ha hbase hfew hline hs hplain
theorem DE_sindex (ho : DE X W fa o) (ha : DA X W (seqA fs) (e :: es)) (hbase : attributeBase o "index" X.env (eval o X.env) = eval o X.env := by rfl) (hfew : Few X e es cpos := by rfl) (hline : (apos.endLine == cpos.line) = true := by rfl)
    (hs : starEach (e :: es) X.env = (false, eval e X.env) :: starEach es X.env := by rfl) (hplain : (backTo cpos (starEach es X.env)).any (·.1) = false := by rfl) : DE X W (metF "str" sixD fa fs) (.Call (.Attribute o "index" apos) (e :: es) [] cpos) :=
  DE_met PySem.F.plainAttrs_str PySem.F.slot_str_index PySem.F.type_str_index M_six ho ha hbase hfew hline hs hplain
end
end DL
namespace DL
open PySem PySem.Spec PyProof.Rows L2
open SeqAt (shaped)
section
variable {X : Cx} {W : WE} {a b c e tg iter elt : Expr} {pos : Pos} {fa fb fc : Frame → M D} {ι : List Addr} {H : Hp} {σ : L2.St} {s : Shared} {pins : List (Addr × Obj)} {f : SM}
/-! ### a statement whose new list is locked behind it -/
def FzS (k : L2.St → Hp → Prop) : L2.St → Hp → Prop := fun σ H => k σ H ∨ ∃ a u, H a = some u ∧ Mut (some u) ∧ ∀ o, k σ (upd H a (.frz o u))
theorem DS.ofz {st : Stmt} {t : TS} (h : PS X st t) (hm : ∀ D σ H ι fr S, SR X.K X.mg ι S H → FR X.K ι fr σ H → PoS X.K X.mg W ι H (f fr S) D → t { D with nx := FzS D.nx } σ H) : DS X W f st := by
  refine ⟨fun pins s σ H D I ⟨ι, fr, S, h1, h2, h3⟩ => thn (h.run pins s σ H _ I (hm D σ H ι fr S h1 h2 h3)) fun fl s' q => ?_⟩
  cases fl with
  | next =>
    obtain ⟨σ', H', I', q⟩ := q
    rcases q with q | ⟨p, u, hp, mu, q⟩
    · exact ⟨σ', H', I', q⟩
    · obtain ⟨o, J⟩ := I'.lock hp mu
      exact ⟨σ', _, J, q o⟩
  | brk => exact q
  | cont => exact q
  | ret u => exact q
variable {ifs : List Expr} {scope : Scope} {own : List (Str × Nat)} {ts : List Nat} {g : D → Frame → M Frame} {ft : Frame → M Bool} {fe : Frame → M D} {fi : Frame → M Src} {N : List Str} {sc : Scope} {bb : Option Scope} {k i : Nat} {x : Str}
/-- x = [..] on one line -/
theorem CxD.setLc {p' spos : Pos} (c : CxD X N sc bb k) (n : NL N sc i x) (hl : sc.names.lookup x = some .local) (hk : sc.kind = .function) (own : List (Str × Nat)) (hi : DI X W fi tg iter) (ok : BlkOk N sc scope own)
    (B : ∀ (s : Shared) (H : Hp) (C : Addr) (cl : List (Str × Addr)) (fp : List Addr), CxD (X.blk s H scope (compEnvC scope cl C X.env) fp) N (relS scope sc) (some scope) k →
      DG (X.blk s H scope (compEnvC scope cl C X.env) fp) ts g tg ∧ DTs (X.blk s H scope (compEnvC scope cl C X.env) fp) W0 ft ifs ∧ DE (X.blk s H scope (compEnvC scope cl C X.env) fp) W0 fe elt)
    (hts : ∀ i ∈ ts, i ∈ own.map (·.2)) (hline : (p'.line == pos.line) = true) (hany : (scope.names.any fun (n, k) => n == x && (k == .local || k == .cell)) = false) (hs : ∀ x, foldedSetIterable iter X.env x = pure x := by intro _; rfl) :
    DS X W (asgF i (cmpD (own.map (·.2)) fi g ft fe)) (.Assign [.Name x p'] (.ListComp elt [⟨tg, iter, ifs, 0⟩] scope pos) spos) := by
  obtain ⟨wi, h1, h2⟩ := hi
  have hN : X.N[i]? = some x := by rw [c.hN]; exact n.ix
  have hlx : X.env.scope.names.lookup x = some .local := by rw [c.hsc]; exact hl
  have hsw := sw_true (elt := elt) (gs := [⟨tg, iter, ifs, 0⟩]) (l := spos.line) (env := X.env) (by rw [c.hsc]; exact hk) hlx hline hany
  refine DS.ofz (ps_setLc (g := trG X.K X.mg ts g) (tt := trT X.K X.mg W0 ft) (te := trE X.K X.mg W0 fe) c.calm c.nd hN hlx hsw h1 (by rw [c.hN, c.hsc]; exact ok) (fun s H C cl fp => (B s H C cl fp c.blk).1) (fun s H C cl fp => (B s H C cl fp c.blk).2.1) (fun s H C cl fp => (B s H C cl fp c.blk).2.2) hs) fun D σ H ι fr S s f h => ?_
  have h' : Po X.K X.mg ι H (bnd (cmpF (own.map (·.2)) fi g ft fe fr) (fun l => ret (.lst l)) S) (fun d S1 ι1 H1 => PoS X.K X.mg W ι1 H1 (.ok .nx (fr.set i (some d)) S1) D) (kX X.K X.mg W σ) := PoS.ex f h
  refine lc_data h2 hts s f h'.bnd fun l S' ι0 H0 ι' H' p vv m0 m hp k s' hl hn r => ?_
  refine .inr ⟨p, _, hl, trivial, fun o => ?_⟩
  have mw : Mw ι' H' ι' (upd H' p (.frz o (.lst vv))) := Mw.other hl (by intro _ z; cases z) (by intro _ _ z; cases z)
  have s2 : SR X.K X.mg ι' S' (upd H' p (.frz o (.lst vv))) := s'.other hl (by intro _ z; cases z) (by intro _ _ z; cases z) hn
  have q := (k ι' _ (m.other hp) s2).ok s2
  exact q.ok s2 (FR.set ((m0.trans (m.other hp)).fr f) ⟨p, vv, rfl, .inl ⟨o, upd_same⟩, mw.rps r⟩)

/-! ### a op b op' c -/
def chF (g g' : D → D → M D) (f1 f2 f3 : Frame → M D) : Frame → M D := fun fr => bnd (f1 fr) fun x => bnd (f2 fr) fun y => bnd (g x y) fun z => fun S => match z with
  | .bl true => bnd (f3 fr) (fun w => g' y w) S
  | .bl false => .ok (.bl false) S
  | _ => .bad
theorem ch_in {op op' : CmpOp} {g g' : D → D → M D} {r r' : R2} (h2 : ∀ ι S H σ x y v u Q, SR X.K X.mg ι S H → Rp X.K ι H x v → Rp X.K ι H y u → Po X.K X.mg ι H (g x y S) (kE X.K Q) (kX X.K X.mg W σ) → r v u H Q)
    (h2' : ∀ ι S H σ x y v u Q, SR X.K X.mg ι S H → Rp X.K ι H x v → Rp X.K ι H y u → Po X.K X.mg ι H (g' x y S) (kE X.K Q) (kX X.K X.mg W σ) → r' v u H Q) {fr : Frame} {S : Store} {Q : VK}
    (s : SR X.K X.mg ι S H) (f : FR X.K ι fr σ H) (h : Po X.K X.mg ι H (chF g g' fa fb fc fr S) (kE X.K Q) (kX X.K X.mg W σ)) : tChain r r' (trE X.K X.mg W fa) (trE X.K X.mg W fb) (trE X.K X.mg W fc) σ H Q := by
  refine ⟨ι, fr, S, s, f, h.bnd.imp (fun x S1 ι1 H1 m1 s1 q1 v r1 => ?_) fun _ _ _ _ _ _ z => z⟩
  refine ⟨ι1, fr, S1, s1, m1.fr f, q1.bnd.imp (fun y S2 ι2 H2 m2 s2 q2 u r2 => ?_) fun _ _ _ _ _ _ z => z⟩
  refine h2 ι2 S2 H2 σ x y v u _ s2 (m2.rp r1) r2 (q2.bnd.imp (fun z S3 ι3 H3 m3 s3 q3 w r3 => ?_) fun _ _ _ _ _ _ z => z)
  split at q3
  · cases r3
    refine ⟨true, rfl, (if_pos rfl).mpr ⟨ι3, fr, S3, s3, ((m1.trans m2).trans m3).fr f, q3.bnd.imp (fun w S4 ι4 H4 m4 s4 q4 t r4 => ?_) fun _ _ _ _ _ _ z => z⟩⟩
    exact h2' ι4 S4 H4 σ y w u t _ s4 ((m3.trans m4).rp r2) r4 q4
  · cases r3
    exact ⟨false, rfl, (if_neg Bool.false_ne_true).mpr (q3.ok s3 _ rfl)⟩
  · exact q3.bad
/-- an operation whose result is no new object -/
def OpN (X : Cx) (W : WE) (f : Value → Value → Sem Value) (g : D → D → M D) : Prop :=
  ∃ r, OpR X f r ∧ ∀ ι S H σ x y v u Q, SR X.K X.mg ι S H → Rp X.K ι H x v → Rp X.K ι H y u → Po X.K X.mg ι H (g x y S) (kE X.K Q) (kX X.K X.mg W σ) → r v u H Q
theorem OpN.of {f : Value → Value → Sem Value} {g : D → D → M D} (h : OpD X W f g) : OpN X W f g := by
  refine ⟨fun x y H Q => ∃ ι S σ dx dy, SR X.K X.mg ι S H ∧ Rp X.K ι H dx x ∧ Rp X.K ι H dy y ∧ Po X.K X.mg ι H (g dx dy S) (kE X.K Q) (kX X.K X.mg W σ), ?_, fun ι S H σ x y v u Q h1 h2 h3 h4 => ⟨ι, S, σ, x, y, h1, h2, h3, h4⟩⟩
  rintro pins s σ H x y v u Q I rx ry ⟨ι, S, σ', dx, dy, h1, h2, h3, h4⟩
  obtain ⟨r, ho, hr⟩ := h
  exact thn (ho pins s σ H x y v u _ I rx ry (hr ι S H σ' dx dy x y Q h1 h2 h3 h4)) fun _ _ q => EP.fz q
theorem DE_chain {op op' : CmpOp} {g g' : D → D → M D} (ho : OpD X W (compareOp op) g) (ho' : OpD X W (compareOp op') g') (ha : DE X W fa a) (hb : DE X W fb b) (hc : DE X W fc c) (hm : lastMarks [op, op'] [b, c] = false := by with_unfolding_all rfl) :
    DE X W (chF g g' fa fb fc) (.Compare a [op, op'] [b, c] pos) := by
  obtain ⟨r, h1, h2⟩ := OpN.of ho
  obtain ⟨r', h1', h2'⟩ := OpN.of ho'
  exact DE.of (pe_chain h1 h1' ha hb hc hm) fun σ H Q ι fr S s f h => ch_in (op := op) (op' := op') h2 h2' s f (h.imp (fun d _ _ _ _ _ z v r => .inl (z v r)) fun _ _ _ _ _ _ z => z)
theorem DT_chain {op op' : CmpOp} {g g' : D → D → M D} (ho : OpD X W (compareOp op) g) (ho' : OpD X W (compareOp op') g') (ha : DE X W fa a) (hb : DE X W fb b) (hc : DE X W fc c) (hm : lastMarks [op, op'] [b, c] = false := by with_unfolding_all rfl) :
    DT X W (tbF (chF g g' fa fb fc)) (.Compare a [op, op'] [b, c] pos) := by
  obtain ⟨r, h1, h2⟩ := OpN.of ho
  obtain ⟨r', h1', h2'⟩ := OpN.of ho'
  refine DT.of (pt_chain h1 h1' ha hb hc hm) fun σ H Q ι fr S s f h => ch_in (op := op) (op' := op') h2 h2' s f (h.bnd.imp (fun d S1 ι1 H1 m1 s1 z v r => ?_) fun _ _ _ _ _ _ z => z)
  unfold tsb at z
  split at z
  · cases r; exact ⟨_, rfl, z.ok s1⟩
  · exact z.bad

/-! ### values of the module -/
theorem CxD.gint {p : Pos} {n : Int} (c : CxD X N sc bb k) (g : NG sc x) (hm : ∃ t, X.mg x = some (.int n t)) : DE X W (cstF (.int n)) (.Name x p) := by
  obtain ⟨t, hm⟩ := hm
  exact DE_glob (c.gl g) hm (v := .int n) ⟨t, rfl⟩ (fun _ _ => rfl) g.d1
/-- a tuple of texts of the module -/
def TupS (K : PySem.W.Frag) (mg : Str → Option Value) (x : Str) (l : List Str) : Prop := ∃ a, mg x = some (.ref a) ∧ ∀ H, SqT K H a (l.map .str)
theorem Rps.of_strs {K : PySem.W.Frag} {ι : List Addr} {H : Hp} : ∀ (ns : List Str), Rps K ι H (ns.map .str) (ns.map V.str)
  | [] => rfl
  | n :: r => ⟨_, _, rfl, rfl, Rps.of_strs r⟩
theorem CxD.gtup {p : Pos} {l : List Str} (c : CxD X N sc bb k) (g : NG sc x) (hm : TupS X.K X.mg x l) : DE X W (cstF (.ctu (l.map .str))) (.Name x p) := by
  obtain ⟨a, hm, h⟩ := hm
  exact DE_glob (c.gl g) hm (v := .ref a) rfl (fun ι H => ⟨a, _, rfl, h H, Rps.of_strs l⟩) g.d1
/-- what the object of such a tuple is -/
def StrsV : List Str → List Value → Prop
  | [], us => us = []
  | x :: xs, us => ∃ t r, us = .str x t :: r ∧ StrsV xs r
theorem StrsV.vals : ∀ {l : List Str} {us : List Value}, StrsV l us → Vals (l.map V.str) us
  | [], _, h => by cases h; exact .nil
  | x :: xs, _, ⟨t, r, e, h⟩ => by subst e; exact .cons ⟨t, rfl⟩ (StrsV.vals h)
theorem TupS.of {K : PySem.W.Frag} {mg : Str → Option Value} {l : List Str} {a : Addr} {o : Obj} {its : Array Value} {n : Nat} (hm : mg x = some (.ref a)) (hk : K.lookup a = some o) (h1 : o.cls = .type "tuple" ∧ o.data = .seq its n ∧ its.size ≤ 1000 ∧ StrsV l its.toList) : TupS K mg x l :=
  ⟨a, hm, fun H => .inr ⟨o, its, n, hk, h1.1, h1.2.1, small_line h1.2.2.1, h1.2.2.2.vals⟩⟩

/-! ### the signs of a text -/
def chars (z : Str) : List D := z.cps.toList.map fun c => .str ⟨#[c]⟩
def itS (f : Frame → M D) : Frame → M Src := fun fr => bnd (f fr) fun d => fun S => match d with
  | .str z => .ok (fun _ => some (chars z)) S
  | _ => .bad
theorem DI_str (ha : DE X W fa e) : DI X W (itS fa) tg e := by
  refine ⟨_, pi_str ha, fun σ H ι fr S R s f h => ⟨ι, fr, S, s, f, h.bnd.imp (fun d S1 ι1 H1 m1 s1 h1 v r1 => ?_) fun _ _ _ _ _ _ z => z⟩⟩
  split at h1
  · rename_i z
    cases r1
    refine ⟨z, rfl, h1.ok s1 (Its z) (fun _ _ => True) ⟨fun _ _ _ _ _ _ => trivial, fun ι S H xs i s _ h hl => ?_, fun ι S H xs i x s _ h hx => ?_, fun ι S H xs i x v H' s _ h hx hy => ?_⟩ trivial⟩
    all_goals cases h
    · have : z.cps.size ≤ i := by simpa [chars] using hl
      exact this
    · have := (List.getElem?_eq_some_iff.mp hx).1
      have : i < z.cps.size := by simpa [chars] using this
      exact this
    · obtain ⟨rfl, q, hq, rfl⟩ := hy
      refine ⟨Mn.refl, s, ?_⟩
      unfold chars at hx
      rw [List.getElem?_map, Array.getElem?_toList, hq] at hx
      cases hx
      rfl
  · exact h1.bad
end
/-! ### a def that calls itself: no fuel -/
theorem FnD.zero {P : Program} {w : World} {K : PySem.W.Frag} {mg : Str → Option Value} {base : Heap} {k : Nat} {x : Str} {n : Nat} {f : Addr} {fd : FuncData} {ps : List Str} (hm : mg x = some (.ref f)) (kp : PySem.W.keepIn K (.ref f) = true) (hn : ps.length = n) (hb : Binds K fd ps []) :
    FnD P w K mg base CX0 k x n [] fun _ => bad := by
  refine ⟨f, fd, ps, [], [], hm, kp, ⟨fun vs H Q E h => ?_, fun A outer s H args us vs Q E hr e0 hb' hv h => ?_⟩, hb, .nil, fun _ _ => rfl⟩
  · obtain ⟨_, _, _, _, _, _, h⟩ := h; exact h.elim
  · obtain ⟨_, _, _, _, _, _, h⟩ := h; exact h.elim
end DL
namespace DL
open PySem PySem.Spec PyProof.Rows L2
open Sem (wp)
/-! ### enumerate(a tuple) -/
theorem meets_enum1B {v : Value} {o : Obj} {H : Heap → Prop} (B : Begins v o H) :
    Meets (Builtin.«enumerate.__new__» ⟨[.type "enumerate", v], []⟩) (fun _ R s => H s.heap ∧
      R (.ok (.ret (.ref (s.heap.push o).objs.size))) { s with heap := (s.heap.push o).push { cls := .type "enumerate", data := .fields #[.none, .bool false, .ref s.heap.objs.size, rawInt 0, .none, .none] } }) :=
  .of_wp fun prog w A R s h => by
    obtain ⟨hp, g, d, tk, os⟩ := s; obtain ⟨h1, h⟩ := h
    have hsub := sub_enumerate
    have q1 : ∀ {A' : Around} {E : Value → Shared → Prop} {Q : Value → Shared → Prop}, Q (.ref hp.objs.size) ⟨hp.push o, g, d, tk, os⟩ → wpAny (model prog w) A' (pyIter v) Q E ⟨hp, g, d, tk, os⟩ :=
      fun q => B.iter prog w _ _ ⟨hp, g, d, tk, os⟩ _ h1 q
    wp_walk using q1
    refine wpAny_stack_any fun st => wpAny_pure ?_
    split
    · rename_i c _ _ _ _ _
      cases (c == Value.type "enumerate")
      · wp_walk using q1
        exact ⟨_, rfl, h⟩
      · wp_walk using q1
        exact ⟨_, rfl, h⟩
    · wp_walk using q1
      exact ⟨_, rfl, h⟩
section
variable {prog : Program} {w : World} {A : Around} {E : Value → Shared → Prop} {s : Shared}
theorem call_enumerate_tuple {t : Addr} {items : Array Value} {Q : Value → Shared → Prop} (hL : s.heap.IsTuple t items)
    (h : ∀ h', IsEnum h' (s.heap.objs.size + 1) s.heap.objs.size 0 .none → h'.IsTupleIter s.heap.objs.size t 0 → h'.objs.size = s.heap.objs.size + 2 →
      (∀ b o, s.heap.get? b = some o → h'.get? b = some o) → Q (.ref (s.heap.objs.size + 1)) { s with heap := h' }) :
    wpAny (model prog w) A (call (.type "enumerate") [.ref t]) Q E s := by
  have B := begins_tuple t items
  refine callType_new F.called_enumerate (by decide) (F.typeCall_enumerate_1 _) (F.newCall_enumerate_1 _) (fun obj => F.args_object_init_2 obj _) F.entry_enumerate_new
    (meets_enum1B B) ⟨hL, ?_⟩
  generalize hoo : ({ cls := .type "tuple_iterator", data := .fields #[.ref t, .int 0 0] } : Obj) = o at *
  have hz : (s.heap.push o).objs.size = s.heap.objs.size + 1 := Heap.size_push ..
  show _ ∧ _
  rw [hz]
  have he : IsEnum ((s.heap.push o).push { cls := .type "enumerate", data := .fields #[.none, .bool false, .ref s.heap.objs.size, rawInt 0, .none, .none] }) (s.heap.objs.size + 1) s.heap.objs.size 0 .none := by
    have := Heap.get?_push_size (s.heap.push o) (o := { cls := .type "enumerate", data := .fields #[.none, .bool false, .ref s.heap.objs.size, rawInt 0, .none, .none] }) rfl
    rw [hz] at this; exact this
  refine ⟨⟨_, he, rfl⟩, h _ he ⟨o, Heap.get?_push_of_some _ (Heap.get?_push_size _ B.free), ?_, ?_⟩ (by rw [Heap.size_push, hz]) fun b o x => Heap.get?_push_of_some _ (Heap.get?_push_of_some _ x)⟩
  · rw [← hoo]
  · rw [← hoo]; rfl
theorem pyNext_enum_endT {e it t : Addr} {items : Array Value} {i : Nat} {j : Int} {old : Value} {Q : Option Value → Shared → Prop} (hh : A.handled = none)
    (he : IsEnum s.heap e it j old) (hit : s.heap.IsTupleIter it t i) (hT' : s.heap.IsTuple t items) (hx : items[i]? = none)
    (hQ : ∀ h', Heap.ExtBut it s.heap h' → Q none { s with heap := h' }) : wpAny (model prog w) A (pyNext (.ref e)) Q E s := by
  have hT : s.TypeIs (.ref e) "enumerate" := ⟨_, he, rfl⟩
  unfold pyNext
  refine wpAny_bind (wpAny_attempt (wpAny_callSpecial?_slot (name := Str.ofString "__next__") hT F.slot_enumerate_next
    (wpAny_call_entry F.slot_enumerate_next hT F.entry_enumerate_next ?_ (F.args_enumerate_next_1 _))))
  show wpAny _ _ (field (.ref e) 2 >>= _) _ _ _
  refine wpAny_bind (wpAny_field he rfl (x := .ref it) rfl ?_)
  refine wpAny_bind (wpAny_nextOf_tuple_end (A := A.in1) hh hit hT' hx fun h' x he' hx' => ?_)
  obtain ⟨o, ho, hc⟩ := hx'
  refine wpAny_bind (wpAny_isInstance (T := "StopIteration") (b := true) ⟨o, ho, hc⟩ isSubtype_stop ?_)
  exact wpAny_pure (hQ _ he')
end
def IteT (K : PySem.W.Frag) (a : Addr) : It :=
  ⟨fun i H => ∃ (xs : List V) (x : V), SqT K H a xs ∧ xs[i]? = some x, fun i H v H' => ∃ T x, v = .ref T ∧ H T = none ∧ H' = upd H T (.tup [.int (i : Nat), x]) ∧ ∀ xs, SqT K H a xs → xs[i]? = some x, fun i H => ∃ xs : List V, SqT K H a xs ∧ xs.length ≤ i⟩
theorem turn_enumT {P : Program} {w : World} {K : PySem.W.Frag} {elts : List Expr} {kk : Nat} {tpos : Pos} (a e it : Addr) (hai : a ≠ it) (hae : a ≠ e) :
    Turn P w K (.Tuple elts kk tpos) (IteT K a) [e, it] e (fun i h => (∃ old, IsEnum h e it ((i : Nat) : Int) old) ∧ h.IsTupleIter it a i ∧ e ≠ it) where
  mem := by simp
  obj := fun i h st b hb => by
    obtain ⟨⟨old, he⟩, ⟨o, ho, hc, hd⟩, _⟩ := st
    have e' : b = e ∨ b = it := by simpa using hb
    rcases e' with z | z
    · rw [z]; exact ⟨_, he, fun v q => nomatch q⟩
    · rw [z]; exact ⟨o, ho, fun v q => by rw [hd] at q; cases q⟩
  keep := fun i h h' st k => let ⟨⟨old, he⟩, hi, hne⟩ := st; ⟨⟨old, k e (by simp) _ he⟩, hi.at fun o q => k it (by simp) o q, hne⟩
  item := by
    intro X hP hw hK hc i pins s σ H E I hf st hg
    subst hP hw hK
    obtain ⟨⟨old, he⟩, hit, hne⟩ := st
    obtain ⟨xs, x, hq, hx⟩ := hg
    obtain ⟨its, rv, p, hz⟩ := I.tuple hq
    obtain ⟨u, hu, ru⟩ := rv.get hx
    have hel : e < s.heap.objs.size := Heap.lt_size he
    have hil : it < s.heap.objs.size := by obtain ⟨_, q, _⟩ := hit; exact Heap.lt_size q
    have hT : s.heap.IsTuple a its.toArray := p
    refine wpAny_pyNext_enum_itemD (Draws.tuple (A := X.A.in1) (I.ok.hd hc) it a hai its.toArray) he ⟨hit, hT⟩ (by have := (List.getElem?_eq_some_iff.mp hu).1; simpa using this) hne (by simp [hne, Ne.symm hae]) fun y h' tk hy ho hst' hT hsz hk => ?_
    have hyu : y = u := by
      have h1 : its.toArray[i]? = some y := hy
      rw [show its.toArray[i]? = its[i]? by simp, hu] at h1
      exact (Option.some.inj h1).symm
    subst hyu
    refine ⟨_, rfl, wpAny_letOwnedTupleGo_enum (s := { s with heap := h', toks := tk + 1 }) ho fun h'' he' sb => ?_⟩
    have hT2 : h''.get? s.heap.objs.size = some { cls := .type "tuple", data := .seq #[.int i tk, y] } := (sb.2 _ (Nat.ne_of_gt hel)).trans hT
    have new : ObjOk X.prog X.w (upd H s.heap.objs.size (.tup [.int (i : Nat), x])) h'' s.heap.objs.size (.tup [.int (i : Nat), x]) :=
      ⟨by show 2 ≤ sizeLine; decide, [.int i tk, y], .cons ⟨_, rfl⟩ (.cons ru .nil), ⟨_, hT2, rfl, _, rfl⟩⟩
    have I1 : Inv X pins σ (upd H s.heap.objs.size (.tup [.int (i : Nat), x])) { s with heap := h'', toks := tk + 1 } :=
      I.turnedNew (ch := [e, it]) (fun b ob hb q => (sb.2 b (fun z => hb (by simp [z]))).trans (hk b ob (fun z => hb (by simp [z])) (fun z => hb (by simp [z])) q)) hf (Nat.le_refl _) new
    refine ⟨.ref s.heap.objs.size, _, I1, rfl, ⟨_, x, rfl, I.hok.fresh (Nat.le_refl _), rfl, fun ys hy => by rw [I.tuple_inj hy hq]; exact hx⟩, ⟨⟨y, ?_⟩, hst'.1.at fun o q => (sb.2 it (Ne.symm hne)).trans q, hne⟩, fun b hb => ?_⟩
    · have e1 : ((i + 1 : Nat) : Int) = (i : Int) + 1 := by omega
      rw [e1]; exact he'
    · have hb' : b < s.heap.objs.size := by
        have e' : b = e ∨ b = it := by simpa using hb
        rcases e' with z | z
        · rw [z]; exact hel
        · rw [z]; exact hil
      rw [upd_ne (Nat.ne_of_lt hb')]
      exact (hf b hb).1
  done := by
    intro X hP hw hK hc i pins s σ H E I hf st hg
    subst hP hw hK
    obtain ⟨⟨old, he⟩, hit, hne⟩ := st
    obtain ⟨xs, hq, hx⟩ := hg
    obtain ⟨its, rv, p, hz⟩ := I.tuple hq
    obtain ⟨f0, f1, f2, f3, f4, f5⟩ := hf it (by simp)
    have hl := rv.length
    have hT : s.heap.IsTuple a its.toArray := p
    exact pyNext_enum_endT (I.ok.hd hc) he hit hT (by simp; omega) fun h' eb => ⟨rfl, I.turned (t' := s.toks) (fun b o hb q => eb b o hb q) f0 f1 f3 f4 f5⟩
  self := fun A i s Q E st h => let ⟨⟨_, he⟩, _⟩ := st; wpAny_pyIter_enum he h
/-- enumerate(a list or a tuple that does not change) -/
def iEnumA (K : PySem.W.Frag) (ta : TA) : TI := fun σ H R => ta σ H fun vs H1 => ∃ a xs, vs = [.ref a] ∧ ((SqL K H1 a xs ∧ R (Ite K a) H1) ∨ (SqT K H1 a xs ∧ R (IteT K a) H1))
section
variable {X : Cx} {W : WE} {e tg : Expr} {p pos tpos : Pos} {elts : List Expr} {kk : Nat} {fs : List (Frame → M D)}
theorem pi_enumA {ta : TA} (hg : Gl X "enumerate") (hm : X.mg "enumerate" = none) (ha : PA X [e] ta) (hs : starEach [e] X.env = [(false, eval e X.env)] := by rfl) :
    PI X (.Tuple elts kk tpos) (.Call (.Name "enumerate" p) [e] [] pos) (iEnumA X.K ta) := by
  refine ⟨fun pins s σ H R I h => ?_⟩
  refine Call_ (ld_blt I hg hm boot_enumerate (PyProof.Rows.callWith_type1 (thn (ha.run pos pins s σ H _ I h) fun us s1 ⟨vs, H1, I1, r1, q1⟩ => ?_) hs rfl))
  obtain ⟨a, xs, ex, q1⟩ := q1
  subst ex
  cases r1 with
  | cons r rr =>
    cases rr
    cases r
    have fin : ∀ b ∈ [s1.heap.objs.size + 1, s1.heap.objs.size], FpOk X pins H1 b := fun b hb => by
      have e' : b = s1.heap.objs.size + 1 ∨ b = s1.heap.objs.size := by simpa using hb
      have hle : s1.heap.objs.size ≤ b := by
        rcases e' with z | z
        · rw [z]; exact Nat.le_add_right _ _
        · rw [z]; exact Nat.le_refl _
      exact I1.fpOk hle (I1.hok.fresh hle)
    rcases q1 with ⟨hq, q⟩ | ⟨hq, q⟩
    · obtain ⟨its, rv, p', hz⟩ := I1.list hq
      refine call_enumerate_list p'.isList fun h' he hit hsz hk => wpAny_pyIter_enum he ?_
      have I2 : Inv X pins σ H1 { s1 with heap := h' } := I1.kept (t' := s1.toks) hk
      exact ⟨s1.heap.objs.size + 1, [s1.heap.objs.size + 1, s1.heap.objs.size], _, _, H1, rfl, I2, turn_enum a (s1.heap.objs.size + 1) s1.heap.objs.size, ⟨⟨.none, he⟩, hit, Nat.succ_ne_self _⟩, fin, q⟩
    · obtain ⟨its, rv, p', hz⟩ := I1.tuple hq
      have hT : s1.heap.IsTuple a its.toArray := p'
      have hlt : a < s1.heap.objs.size := by obtain ⟨_, e1, _⟩ := p'; exact Heap.lt_size e1
      refine call_enumerate_tuple hT fun h' he hit hsz hk => wpAny_pyIter_enum he ?_
      have I2 : Inv X pins σ H1 { s1 with heap := h' } := I1.kept (t' := s1.toks) hk
      exact ⟨s1.heap.objs.size + 1, [s1.heap.objs.size + 1, s1.heap.objs.size], _, _, H1, rfl, I2, turn_enumT a (s1.heap.objs.size + 1) s1.heap.objs.size (Nat.ne_of_lt hlt) (Nat.ne_of_lt (Nat.lt_succ_of_lt hlt)), ⟨⟨.none, he⟩, hit, Nat.succ_ne_self _⟩, fin, q⟩
/-- the items with their places -/
def enumL (l : List D) : List D := l.zipIdx.map fun x => .tup [.int (x.2 : Nat), x.1]
def enm (l : List D) : M Src := fun S => match l with
  | [.tup l] => .ok (fun _ => some (enumL l)) S
  | [.lst l] => .ok (fun _ => some (enumL l)) S
  | _ => .bad
theorem enumL_get {l : List D} {i : Nat} {x : D} (h : (enumL l)[i]? = some x) : ∃ y, l[i]? = some y ∧ x = .tup [.int (i : Nat), y] := by
  unfold enumL at h
  rw [List.getElem?_map, List.getElem?_zipIdx] at h
  cases e : l[i]? with
  | none => rw [e] at h; cases h
  | some y => rw [e] at h; exact ⟨y, rfl, by simpa using (Option.some.inj h).symm⟩
theorem enumL_len {l : List D} : (enumL l).length = l.length := by simp [enumL]
theorem pair_new {ι : List Addr} {S : Store} {H : Hp} {T : Addr} {i : Nat} {v : V} {y : D} (s : SR X.K X.mg ι S H) (hT : H T = none) (r : Rp X.K ι H y v) :
    Mn ι H ι (upd H T (.tup [.int (i : Nat), v])) ∧ SR X.K X.mg ι S (upd H T (.tup [.int (i : Nat), v])) ∧ Rp X.K ι (upd H T (.tup [.int (i : Nat), v])) (.tup [.int (i : Nat), y]) (.ref T) :=
  ⟨Mn.fresh hT, s.fresh hT, T, _, rfl, upd_same, _, _, rfl, rfl, _, _, rfl, (Mn.fresh (ι := ι) hT).rp r, rfl⟩
theorem DI_enum (hg : Gl X "enumerate") (hm : X.mg "enumerate" = none) (ha : DA X W (seqA fs) [e]) (hs : starEach [e] X.env = [(false, eval e X.env)] := by rfl) : DI X W (rngF enm fs) (.Tuple elts kk tpos) (.Call (.Name "enumerate" p) [e] [] pos) := by
  refine ⟨_, pi_enumA hg hm ha hs, fun σ H ι fr S R s f h => ⟨ι, fr, S, s, f, h.bnd.imp (fun l S1 ι1 H1 m1 s1 h1 vs r1 => ?_) fun _ _ _ _ _ _ z => z⟩⟩
  unfold enm at h1
  split at h1
  · rename_i l
    obtain ⟨v, t, rfl, ⟨a, us, rfl, hq, ru⟩, rt⟩ := r1
    cases rt
    have hq : SqT X.K H1 a us := .of hq
    refine ⟨a, us, rfl, .inr ⟨hq, h1.ok s1 (IteT X.K a) (fun ι H => ∃ us, SqT X.K H a us ∧ Rps X.K ι H l us) ⟨fun _ _ _ _ m ⟨us, h1, h2⟩ => ⟨us, m.sqT h1, m.rps h2⟩, fun ι S H xs i s ⟨us, h1, h2⟩ h hl => ?_, fun ι S H xs i x s ⟨us, h1, h2⟩ h hx => ?_, fun ι S H xs i x v H' s ⟨us, h1, h2⟩ h hx hy => ?_⟩ ⟨us, hq, ru⟩⟩⟩
    all_goals cases h
    · exact ⟨us, h1, by rw [← h2.length, ← enumL_len]; exact hl⟩
    · obtain ⟨y, hy, _⟩ := enumL_get hx
      obtain ⟨v, hv, _⟩ := h2.get hy
      exact ⟨us, v, h1, hv⟩
    · obtain ⟨y, hyl, rfl⟩ := enumL_get hx
      obtain ⟨u, hu, ru⟩ := h2.get hyl
      obtain ⟨T, z, rfl, hT, rfl, hz⟩ := hy
      have e := hz us h1
      rw [hu] at e
      cases e
      exact pair_new s hT ru
  · rename_i l
    obtain ⟨v, t, rfl, ⟨a, us, rfl, hq, ru⟩, rt⟩ := r1
    cases rt
    refine ⟨a, us, rfl, .inl ⟨hq.sq, h1.ok s1 (Ite X.K a) (fun ι H => ∃ us, Ls X.K H a us ∧ Rps X.K ι H l us) ⟨fun _ _ _ _ m ⟨us, h1, h2⟩ => ⟨us, m.ls h1, m.rps h2⟩, fun ι S H xs i s ⟨us, h1, h2⟩ h hl => ?_, fun ι S H xs i x s ⟨us, h1, h2⟩ h hx => ?_, fun ι S H xs i x v H' s ⟨us, h1, h2⟩ h hx hy => ?_⟩ ⟨us, hq, ru⟩⟩⟩
    all_goals cases h
    · exact ⟨us, h1.sq, by rw [← h2.length, ← enumL_len]; exact hl⟩
    · obtain ⟨y, hy, _⟩ := enumL_get hx
      obtain ⟨v, hv, _⟩ := h2.get hy
      exact ⟨us, v, h1.sq, hv⟩
    · obtain ⟨y, hyl, rfl⟩ := enumL_get hx
      obtain ⟨u, hu, ru⟩ := h2.get hyl
      obtain ⟨T, z, rfl, hT, rfl, hz⟩ := hy
      have e := hz us h1.sq
      rw [hu] at e
      cases e
      exact pair_new s hT ru
  · exact h1.bad
end
end DL
namespace DL
open PySem PySem.Spec PyProof.Rows L2
open SeqAt (shaped)
/-! ### sorted(ints) -/
def insI (x : Int) : List Int → List Int
  | [] => [x]
  | y :: r => if x ≤ y then x :: y :: r else y :: insI x r
def sortI : List Int → List Int
  | [] => []
  | x :: r => insI x (sortI r)
theorem insI_perm (x : Int) : ∀ l, (insI x l).Perm (x :: l)
  | [] => List.Perm.refl _
  | y :: r => by
    unfold insI
    split
    · exact List.Perm.refl _
    · exact ((insI_perm x r).cons y).trans (List.Perm.swap x y r)
theorem sortI_perm : ∀ l, (sortI l).Perm l
  | [] => List.Perm.refl _
  | x :: r => (insI_perm x _).trans ((sortI_perm r).cons x)
theorem insI_sorted (x : Int) : ∀ l : List Int, l.Pairwise (· ≤ ·) → (insI x l).Pairwise (· ≤ ·)
  | [], _ => by simp [insI]
  | y :: r, h => by
    obtain ⟨h1, h2⟩ := List.pairwise_cons.mp h
    unfold insI
    split
    · rename_i hxy
      refine List.pairwise_cons.mpr ⟨fun z hz => ?_, h⟩
      rcases List.mem_cons.mp hz with rfl | hz
      · exact hxy
      · exact Int.le_trans hxy (h1 z hz)
    · rename_i hxy
      refine List.pairwise_cons.mpr ⟨fun z hz => ?_, insI_sorted x r h2⟩
      rcases List.mem_cons.mp ((insI_perm x r).mem_iff.mp hz) with rfl | hz
      · omega
      · exact h1 z hz
theorem sortI_sorted : ∀ l, (sortI l).Pairwise (· ≤ ·)
  | [] => List.Pairwise.nil
  | x :: r => insI_sorted x _ (sortI_sorted r)
theorem sorted_unique : ∀ {l m : List Int}, l.Perm m → l.Pairwise (· ≤ ·) → m.Pairwise (· ≤ ·) → l = m
  | [], m, h, _, _ => (List.Perm.nil_eq h)
  | x :: r, [], h, _, _ => absurd h.symm.nil_eq (by simp)
  | x :: r, y :: q, h, h1, h2 => by
    obtain ⟨a1, a2⟩ := List.pairwise_cons.mp h1
    obtain ⟨b1, b2⟩ := List.pairwise_cons.mp h2
    have hxy : x = y := by
      have hx : x ∈ y :: q := h.mem_iff.mp List.mem_cons_self
      have hy : y ∈ x :: r := h.mem_iff.mpr List.mem_cons_self
      rcases List.mem_cons.mp hx with e | hx
      · exact e
      · rcases List.mem_cons.mp hy with e | hy
        · exact e.symm
        · have := a1 y hy; have := b1 x hx; omega
    subst hxy
    rw [sorted_unique (List.Perm.cons_inv h) a2 b2]
def sortedD (xs : List D) : M D := fun S => match (oneL S xs).bind intsL with
  | some ns => .ok (.lst ((sortI ns).map .int)) S
  | none => .bad
def fmtD (x : D) : M D := fun S => match x with
  | .str a => if a.length ≤ sizeLine then .ok (.str a) S else .bad
  | .int i => if i.natAbs.log2 < 1920 then .ok (.str (toString i)) S else .bad
  | _ => .bad
section
variable {X : Cx} {W : WE} {e : Expr} {es : List Expr} {pos : Pos} {fe : Frame → M D} {fs : List (Frame → M D)} {ι : List Addr} {H : Hp} {σ : L2.St}
theorem C_sorted : CalD X W (.builtin "sorted") sortedD := by
  refine ⟨_, cr_sortedI, fun ι S H σ xs vs Q s r h => ?_⟩
  unfold sortedD at h
  split at h
  · rename_i ns hns
    obtain ⟨a, rfl, hq⟩ := ints_at s r hns
    refine ⟨a, ns, rfl, hq, fun ns' p h1 h2 hp => ?_⟩
    rw [sorted_unique (h1.trans (sortI_perm ns).symm) h2 (sortI_sorted ns)]
    exact fz_list s (Rps.of_ints _) h p hp
  · exact h.bad
theorem DE_fmt (he : DE X W fe e) : DE X W (unF fmtD fe) (.FormattedValue e (-1) none pos) := by
  refine DE.of (pe_fmt he) fun σ H Q ι fr S s f h => ⟨ι, fr, S, s, f, h.bnd.imp (fun d S1 ι1 H1 m1 s1 q v r => ?_) fun _ _ _ _ _ _ z => z⟩
  unfold fmtD at q
  split at q
  · cases r
    split at q
    · rename_i hz; exact .inl ⟨_, rfl, hz, .inl (q.ok s1 _ rfl)⟩
    · exact q.bad
  · cases r
    split at q
    · rename_i hz; exact .inr ⟨_, rfl, hz, .inl (q.ok s1 _ rfl)⟩
    · exact q.bad
  · exact q.bad
/-! ### f'..' -/
def catD (x y : D) : M D := fun S => match x, y with
  | .str a, .str b => if (a ++ b).length ≤ sizeLine then .ok (.str (a ++ b)) S else .bad
  | _, _ => .bad
def fsN (k : Str → M D) (acc : Str) (x : D) : M D := fun S => match x with
  | .str y => if (acc ++ y).length ≤ sizeLine then k (acc ++ y) S else .bad
  | _ => .bad
def fsF : List (Frame → M D) → Str → Frame → M D
  | [], acc, _ => ret (.str acc)
  | f :: fs, acc, fr => bnd (f fr) (fsN (fun a => fsF fs a fr) acc)
inductive DJ (X : Cx) (W : WE) : List Expr → List (Frame → M D) → Prop where
  | nil : DJ X W [] []
  | cons {e : Expr} {f : Frame → M D} {es : List Expr} {fs : List (Frame → M D)} (h : DE X W f e) (r : DJ X W es fs) : DJ X W (e :: es) (f :: fs)
theorem DJ.pj {es : List Expr} {fs : List (Frame → M D)} (h : DJ X W es fs) : PJ X es (fs.map fun f => trE X.K X.mg W f) := by
  induction h with
  | nil => exact .nil
  | cons h _ ih => exact .cons h ih
theorem js_in : ∀ (fs : List (Frame → M D)) (acc : Str) (fr : Frame) (S : Store) (ι : List Addr) (H : Hp) (Q : VK), SR X.K X.mg ι S H → FR X.K ι fr σ H → Po X.K X.mg ι H (fsF fs acc fr S) (kE X.K Q) (kX X.K X.mg W σ) →
    tJs (fs.map fun f => trE X.K X.mg W f) acc σ H fun out H1 => Q (.str out) H1
  | [], acc, fr, S, ι, H, Q, s, f, h => h.ok s _ rfl
  | g :: gs, acc, fr, S, ι, H, Q, s, f, h => by
    have h' : Po X.K X.mg ι H (bnd (g fr) (fsN (fun a => fsF gs a fr) acc) S) (kE X.K Q) (kX X.K X.mg W σ) := h
    refine ⟨ι, fr, S, s, f, h'.bnd.imp (fun x S1 ι1 H1 m1 s1 q v r => ?_) fun _ _ _ _ _ _ z => z⟩
    unfold fsN at q
    split at q
    · rename_i y
      cases r
      split at q
      · rename_i hz
        exact ⟨y, rfl, hz, js_in gs (acc ++ y) fr S1 ι1 H1 Q s1 (m1.fr f) q⟩
      · exact q.bad
    · exact q.bad
theorem DE_fs {v1 v2 : Expr} {rest : List Expr} {fs : List (Frame → M D)} (h : DJ X W (v1 :: v2 :: rest) fs) : DE X W (fsF fs Str.empty) (.JoinedStr (v1 :: v2 :: rest) pos) :=
  DE.of (pe_joined h.pj) fun σ H Q ι fr S s f h => js_in fs Str.empty fr S ι H (Fz Q) s f (h.imp (fun d _ _ _ _ _ z v r => .inl (z v r)) fun _ _ _ _ _ _ z => z)
end
end DL
namespace DL
open PySem PySem.Spec PyProof.Rows L2
open SeqAt (shaped)
/-! ### instances of own classes -/
def insS (S : Store) : D → Option (Nat × Str × List (Str × D))
  | .ob n => match S[n]? with
    | some (some (.ins c fs)) => some (n, c, fs)
    | _ => none
  | _ => none
theorem insS_of {S : Store} {d : D} {n : Nat} {c : Str} {fs : List (Str × D)} (h : insS S d = some (n, c, fs)) : d = .ob n ∧ S[n]? = some (some (.ins c fs)) := by
  unfold insS at h
  split at h
  · rename_i m
    split at h
    · rename_i c' fs' e
      cases h
      exact ⟨rfl, e⟩
    · cases h
  · cases h
section
variable {K : PySem.W.Frag} {mg : Str → Option Value} {ι : List Addr} {H : Hp}
theorem ins_at {S : Store} {d : D} {v : V} {n : Nat} {c : Str} {fs : List (Str × D)} (s : SR K mg ι S H) (r : Rp K ι H d v) (h : insS S d = some (n, c, fs)) :
    ∃ a C dx vs, v = .ref a ∧ ι[n]? = some a ∧ mg c = some (.ref C) ∧ H a = some (.ins C dx vs) ∧ Rkv K ι H fs vs := by
  obtain ⟨rfl, e⟩ := insS_of h
  obtain ⟨a, rfl, hi⟩ := r
  obtain ⟨b, e1, C, dx, vs, h1, h2, h3⟩ := s.obj n _ e
  rw [hi] at e1
  cases e1
  exact ⟨a, C, dx, vs, rfl, hi, h1, h2, h3⟩
theorem Rkv.lookup {f : Str} : ∀ {fs : List (Str × D)} {vs : List (Str × V)} {d : D}, Rkv K ι H fs vs → fs.lookup f = some d → ∃ v, vs.lookup f = some v ∧ Rp K ι H d v
  | [], _, _, _, e => by cases e
  | (k, x) :: r, _, d, h, e => by
    obtain ⟨v, w, rfl, h1, h2⟩ := h
    by_cases hk : f = k
    · subst hk
      have hb : (f == f) = true := beq_self_eq_true f
      simp only [List.lookup, hb] at e ⊢
      cases e
      exact ⟨v, rfl, h1⟩
    · have hb : (f == k) = false := beq_eq_false_iff_ne.mpr hk
      simp only [List.lookup, hb] at e ⊢
      exact Rkv.lookup h2 e
theorem Rkv.lookup_none {f : Str} : ∀ {fs : List (Str × D)} {vs : List (Str × V)}, Rkv K ι H fs vs → fs.lookup f = none → vs.lookup f = none
  | [], _, h, _ => by cases h; rfl
  | (k, x) :: r, _, h, e => by
    obtain ⟨v, w, rfl, h1, h2⟩ := h
    by_cases hk : f = k
    · subst hk
      have hb : (f == f) = true := beq_self_eq_true f
      simp only [List.lookup, hb] at e
      cases e
    · have hb : (f == k) = false := beq_eq_false_iff_ne.mpr hk
      simp only [List.lookup, hb] at e ⊢
      exact Rkv.lookup_none h2 e
theorem Rkv.length {κ : Type} : ∀ {fs : List (κ × D)} {vs : List (κ × V)}, Rkv K ι H fs vs → fs.length = vs.length
  | [], _, h => by cases h; rfl
  | (k, x) :: r, _, h => by
    obtain ⟨v, w, rfl, h1, h2⟩ := h
    simp [Rkv.length h2]
def putD (f : Str) (d : D) : List (Str × D) → List (Str × D)
  | [] => [(f, d)]
  | (g, x) :: r => if g = f then (g, d) :: r else (g, x) :: putD f d r
theorem Rkv.put {f : Str} {d : D} {v : V} (q : Rp K ι H d v) : ∀ {fs : List (Str × D)} {vs : List (Str × V)}, Rkv K ι H fs vs → Rkv K ι H (putD f d fs) (putF f v vs)
  | [], _, h => by cases h; exact ⟨v, [], rfl, q, rfl⟩
  | (k, x) :: r, _, h => by
    obtain ⟨u, w, rfl, h1, h2⟩ := h
    unfold putD putF
    by_cases hk : k = f
    · rw [if_pos hk, if_pos hk]
      exact ⟨v, w, rfl, q, h2⟩
    · rw [if_neg hk, if_neg hk]
      exact ⟨u, _, rfl, h1, h2.put q⟩
end
/-- a class of the module without a class attribute of this name -/
def AtD (K : PySem.W.Frag) (mg : Str → Option Value) (f : Str) (c : Str) : Prop := ∃ C, mg c = some (.ref C) ∧ Cls K C ∧ NoAttr K C f
def AtDs (K : PySem.W.Frag) (mg : Str → Option Value) (f : Str) : List Str → Prop
  | [] => True
  | c :: r => AtD K mg f c ∧ AtDs K mg f r
theorem AtDs.get {K : PySem.W.Frag} {mg : Str → Option Value} {f c : Str} : ∀ {cs : List Str}, AtDs K mg f cs → cs.contains c = true → AtD K mg f c
  | [], _, h => by simp at h
  | d :: r, ⟨h1, h2⟩, h => by
    by_cases e : c = d
    · subst e; exact h1
    · refine h2.get ?_
      simp only [List.contains_cons, Bool.or_eq_true, beq_iff_eq] at h
      rcases h with h | h
      · exact absurd h e
      · exact h
def fldD (cs : List Str) (f : Str) (o : D) : M D := fun S => match insS S o with
  | some (_, c, fs) => if cs.contains c = true then (match fs.lookup f with
    | some d => .ok d S
    | none => .bad) else .bad
  | none => .bad
def fldF (cs : List Str) (f : Str) (fo : Frame → M D) : Frame → M D := fun fr => bnd (fo fr) (fldD cs f)
def setA (cs : List Str) (f : Str) (o d : D) : M Unit := fun S => match insS S o with
  | some (n, c, fs) => if cs.contains c = true ∧ fs.length < 1000 then .ok () (S.set n (some (.ins c (putD f d fs)))) else .bad
  | none => .bad
def tgAtt (cs : List Str) (f : Str) (fo : Frame → M D) : D → Frame → M Frame := fun d fr => bnd (nox (fo fr)) fun o => bnd (setA cs f o d) fun _ => ret fr
/-- an assignment's attribute -/
def gFld (K : PySem.W.Frag) (ta : TE) (f : Str) : TG := fun y σ H Q => ta σ H fun x H2 => ∃ a C dx fs, x = .ref a ∧ H2 a = some (.ins C dx fs) ∧ Cls K C ∧ NoAttr K C f ∧ fs.length < 1000 ∧ Q σ (upd H2 a (.ins C dx (putF f y fs)))
section
variable {X : Cx} {W : WE} {o e : Expr} {es : List Expr} {pos p apos : Pos} {fo fe : Frame → M D} {fs : List (Frame → M D)} {cs : List Str} {f x m : Str} {ta : TE} {N : List Str} {sc : Scope} {b : Option Scope} {k : Nat}
theorem pg_fld (ha : PE X o ta) : PG X (.Attribute o f pos) (gFld X.K ta f) := by
  refine ⟨fun pins s σ H v u Q I r h => ?_⟩
  refine PySem.W.kas_attr (thn (ha.run pins s σ H _ I h) fun ov s2 ⟨x, H2, I2, rx, a, C, dx, fs, ex, ea, c, n, l, q2⟩ => ?_)
  subst ex
  obtain rfl : ov = Value.ref a := rx
  exact setattr_ok I2 ea c n l r fun s3 I3 => ⟨σ, _, I3, q2⟩
theorem DE_fld (hc : AtDs X.K X.mg f cs) (ho : DE X W fo o) (hb : attributeBase o f X.env (eval o X.env) = eval o X.env := by rfl) : DE X W (fldF cs f fo) (.Attribute o f pos) := by
  refine DE.of (pe_fld ho hb) fun σ H Q ι fr S s f' h => ⟨ι, fr, S, s, f', h.bnd.imp (fun d S1 ι1 H1 m1 s1 q v r1 => ?_) fun _ _ _ _ _ _ z => z⟩
  unfold fldD at q
  split at q
  · rename_i n c fl e
    split at q
    · rename_i hin
      split at q
      · rename_i d' hd
        obtain ⟨a, C, dx, vs, rfl, hi, hm, ha, hr⟩ := ins_at s1 r1 e
        obtain ⟨C', hm', hcl, hno⟩ := hc.get hin
        rw [hm] at hm'
        cases hm'
        obtain ⟨w, hw, rw'⟩ := hr.lookup hd
        exact ⟨a, C, dx, vs, w, rfl, ha, hcl, hno, hw, .inl (q.ok s1 _ rw')⟩
      · exact q.bad
    · exact q.bad
  · exact q.bad
theorem DG_att (hc : AtDs X.K X.mg f cs) (ho : DE X W fo o) : DG X [] (tgAtt cs f fo) (.Attribute o f pos) := by
  refine ⟨fun pins s σ H v u Q I r h => ?_⟩
  obtain ⟨ι, fr, S, d, hS, hF, hr, h⟩ := h
  refine (pg_fld ho).run pins s σ H v u Q I r ?_
  refine ⟨ι, fr, S, hS, hF, ?_⟩
  refine Po.noxk (e := fun _ _ _ _ => False) ?_
  refine Po.imp (Po.bnd h) (fun o' S1 ι1 H1 m1 s1 h1 ov ro => ?_) (fun _ _ _ _ _ _ z => z)
  have h1' := h1.bndE
  unfold setA at h1'
  split at h1'
  · rename_i n c fl e
    split at h1'
    · rename_i hin
      obtain ⟨a, C, dx, vs, rfl, hi, hm, ha, hk⟩ := ins_at s1 ro e
      obtain ⟨C', hm', hcl, hno⟩ := hc.get hin.1
      rw [hm] at hm'
      cases hm'
      obtain ⟨rfl, hSn⟩ := insS_of e
      have rv2 := m1.rp hr
      have mw := Mn.write (u := .ins C dx (putF f v vs)) s1 hi hSn
      refine ⟨a, C, dx, vs, rfl, ha, hcl, hno, by rw [← hk.length]; exact hin.2, ?_⟩
      have s3 : SR X.K X.mg ι1 (S1.set n (some (.ins c (putD f d fl)))) (upd H1 a (.ins C dx (putF f v vs))) := s1.write hi hSn (by intro _ z; cases z) fun z hz => by
        cases hz
        exact ⟨C, dx, _, hm, upd_same, (mw.rkv hk).put (mw.rp rv2)⟩
      exact (h1' _ _ mw s3).2.ok s3 σ ((m1.trans mw).fr hF) Tch.refl
    · exact h1'.bad
  · exact h1'.bad
end
/-! ### methods, properties, making -/
structure MtdD (P : Program) (w : World) (K : PySem.W.Frag) (mg : Str → Option Value) (base : Heap) (CX : CXT) (k : Nat) (c m : Str) (n : Nat) (dds : List D) (F : List D → M D) : Prop where
  ex : ∃ (C f : Addr) (fd : FuncData) (ps : List Str) (ds : List Value) (dvs : List V), mg c = some (.ref C) ∧ Cls K C ∧ Meth K C m f ∧ FnOk P w K mg base CX k f fd ps (spD K mg n F) ∧ Binds K fd ps ds ∧ Vals dvs ds ∧ ∀ ι H, Rps K ι H dds dvs
structure PrpD (P : Program) (w : World) (K : PySem.W.Frag) (mg : Str → Option Value) (base : Heap) (CX : CXT) (k : Nat) (c m : Str) (F : List D → M D) : Prop where
  ex : ∃ (C p g : Addr) (fd : FuncData) (ps : List Str), mg c = some (.ref C) ∧ Cls K C ∧ PropOf K C m p g ∧ FnOk P w K mg base CX k g fd ps (spD K mg 1 F) ∧ Binds K fd ps []
structure IniD (P : Program) (w : World) (K : PySem.W.Frag) (mg : Str → Option Value) (base : Heap) (CX : CXT) (k : Nat) (c : Str) (n : Nat) (dds : List D) (F : List D → M D) : Prop where
  ex : ∃ (C f : Addr) (fd : FuncData) (ps : List Str) (ds : List Value) (dvs : List V), mg c = some (.ref C) ∧ Mk K C f ∧ FnOk P w K mg base CX k f fd ps (spD K mg n F) ∧ Binds K fd ps ds ∧ Vals dvs ds ∧ ∀ ι H, Rps K ι H dds dvs
abbrev Tab := List (Str × (List D → M D))
/-- the methods of this name, class by class; n: how many arguments are written -/
inductive TabM (P : Program) (w : World) (K : PySem.W.Frag) (mg : Str → Option Value) (base : Heap) (k : Nat) (m : Str) (n : Nat) : Tab → Prop where
  | nil : TabM P w K mg base k m n []
  | cons {c : Str} {j l : Nat} {dds : List D} {F : List D → M D} {t : Tab} (h : MtdD P w K mg base CX0 j c m l dds F) (hj : j ≤ k) (hn : n + 1 + dds.length = l) (r : TabM P w K mg base k m n t) : TabM P w K mg base k m n ((c, fun xs => F (xs ++ dds)) :: t)
inductive TabP (P : Program) (w : World) (K : PySem.W.Frag) (mg : Str → Option Value) (base : Heap) (k : Nat) (m : Str) : Tab → Prop where
  | nil : TabP P w K mg base k m []
  | cons {c : Str} {j : Nat} {F : List D → M D} {t : Tab} (h : PrpD P w K mg base CX0 j c m F) (hj : j + 1 ≤ k) (r : TabP P w K mg base k m t) : TabP P w K mg base k m ((c, F) :: t)
section
variable {P : Program} {w : World} {K : PySem.W.Frag} {mg : Str → Option Value} {base : Heap} {k n : Nat} {m : Str}
theorem TabM.get {c : Str} {G : List D → M D} : ∀ {t : Tab}, TabM P w K mg base k m n t → t.lookup c = some G → ∃ j l dds F, MtdD P w K mg base CX0 j c m l dds F ∧ j ≤ k ∧ n + 1 + dds.length = l ∧ G = fun xs => F (xs ++ dds)
  | _, .nil, h => by cases h
  | _, .cons (c := d) h hj hn r, e => by
    by_cases q : c = d
    · subst q
      have hb : (c == c) = true := beq_self_eq_true c
      simp only [List.lookup, hb] at e
      cases e
      exact ⟨_, _, _, _, h, hj, hn, rfl⟩
    · have hb : (c == d) = false := beq_eq_false_iff_ne.mpr q
      simp only [List.lookup, hb] at e
      exact r.get e
theorem TabP.get {c : Str} {G : List D → M D} : ∀ {t : Tab}, TabP P w K mg base k m t → t.lookup c = some G → ∃ j, PrpD P w K mg base CX0 j c m G ∧ j + 1 ≤ k
  | _, .nil, h => by cases h
  | _, .cons (c := d) h hj r, e => by
    by_cases q : c = d
    · subst q
      have hb : (c == c) = true := beq_self_eq_true c
      simp only [List.lookup, hb] at e
      cases e
      exact ⟨_, h, hj⟩
    · have hb : (c == d) = false := beq_eq_false_iff_ne.mpr q
      simp only [List.lookup, hb] at e
      exact r.get e
end
def mtdF (m : Str) (tab : Tab) (fo : Frame → M D) (fs : List (Frame → M D)) : Frame → M D := fun fr => bnd (nox (fo fr)) fun o => fun S => match insS S o with
  | some (_, c, fl) => if fl.lookup m = none then (match tab.lookup c with
    | some F => bnd (seqA fs fr) (fun xs => nox (F (o :: xs))) S
    | none => .bad) else .bad
  | none => .bad
def prpF (tab : Tab) (fo : Frame → M D) : Frame → M D := fun fr => bnd (nox (fo fr)) fun o => fun S => match insS S o with
  | some (_, c, _) => (match tab.lookup c with
    | some F => nox (F [o]) S
    | none => .bad)
  | none => .bad
def makF (c : Str) (F : List D → M D) (fs : List (Frame → M D)) : Frame → M D := fun fr => bnd (seqA fs fr) fun xs => fun S => match F (.ob S.length :: xs) (S ++ [some (.ins c [])]) with
  | .ok .non S' => .ok (.ob S.length) S'
  | _ => .bad
def makO (c : Str) : Frame → M D := fun _ S => .ok (.ob S.length) (S ++ [some (.ins c [])])
section
variable {X : Cx} {W : WE} {o e : Expr} {es : List Expr} {pos p apos : Pos} {fo fe : Frame → M D} {fs : List (Frame → M D)} {cs : List Str} {f x m : Str} {N : List Str} {sc : Scope} {b : Option Scope} {k : Nat} {tab : Tab}
theorem nox_inv {α : Type} {mm : M α} {S : Store} : (∃ a S', mm S = .ok a S' ∧ nox mm S = .ok a S') ∨ nox mm S = .bad := by
  unfold nox
  cases mm S with
  | ok a S' => exact .inl ⟨a, S', rfl, rfl⟩
  | err x S' => exact .inr rfl
  | bad => exact .inr rfl
theorem DE_mtd (T : TabM X.prog X.w X.K X.mg X.base k m fs.length tab) (hr : Room k X.A) (ho : DE X W fo o) (ha : DA X W (seqA fs) (e :: es)) (pl : Sem Bool)
    (hst : starEach (e :: es) X.env = (false, eval e X.env) :: starEach es X.env := by rfl) (hpl : (backTo pos (starEach es X.env)).any (·.1) = false := by rfl)
    (ht : eval (.Call (.Attribute o m apos) (e :: es) [] pos) X.env = (do
      let ov ← eval o X.env
      standAt apos.atName
      let (f, first) ← holding [ov] (getMethod ov m pl)
      callWith pos f first (backTo pos (starEach (e :: es) X.env)) (backToKw pos (keywordEach [] X.env))) := by rfl) :
    DE X W (mtdF m tab fo fs) (.Call (.Attribute o m apos) (e :: es) [] pos) := by
  refine ⟨fun pins s σ H Q I h => ?_⟩
  obtain ⟨ι, fr, S, hS, hF, h⟩ := h
  unfold mtdF bnd at h
  rcases nox_inv (mm := fo fr) (S := S) with ⟨d, S1, e1, e2⟩ | e2
  · rw [e2] at h
    dsimp only at h
    split at h
    · rename_i n c fl hins
      split at h
      · rename_i hno
        split at h
        · rename_i G hG
          obtain ⟨j, l, dds, F, hM, hj, hn, rfl⟩ := T.get hG
          obtain ⟨C, g, fd, ps, ds, dvs, hmg, hcl, hme, hfn, hbi, hva, hdd⟩ := hM.ex
          refine (pe_meth (E := fun _ _ _ => False) ho hcl hme hfn (hr.mono hj) hbi hva pass0 ha hst hpl ht).run pins s σ H Q I ⟨ι, fr, S, hS, hF, ?_⟩
          rw [e1]
          intro ι1 H1 m1 s1 v r1
          obtain ⟨a, C', dx, vs, rfl, hi, hm, hat, hk⟩ := ins_at s1 r1 hins
          rw [hmg] at hm
          cases hm
          refine ⟨a, dx, vs, rfl, hat, hk.lookup_none hno, ι1, fr, S1, s1, m1.fr hF, ?_⟩
          refine (Po.from m1 h).bndE.imp (fun xs S2 ι2 H2 m2 s2 q vs2 r2 => ?_) fun _ _ _ _ _ _ z => z
          obtain ⟨hq, q⟩ := q
          have hl := seqA_len hq
          obtain ⟨rfl, _⟩ := insS_of hins
          refine ⟨ι2, (.ob n :: xs) ++ dds, S2, s2, ?_, by simp [hl]; omega, ?_⟩
          · exact ⟨.ref a, _, rfl, ⟨a, rfl, m2.ix hi⟩, r2.app (hdd _ _)⟩
          · exact Po.nox q
        · exact h.elim
      · exact h.elim
    · exact h.elim
  · rw [e2] at h
    exact h.elim
theorem DE_mtd0 (T : TabM X.prog X.w X.K X.mg X.base k m 0 tab) (hr : Room k X.A) (ho : DE X W fo o) (pl : Sem Bool)
    (ht : eval (.Call (.Attribute o m apos) [] [] pos) X.env = (do
      let ov ← eval o X.env
      standAt apos.atName
      let (f, first) ← holding [ov] (getMethod ov m pl)
      callWith pos f first (backTo pos (starEach [] X.env)) (backToKw pos (keywordEach [] X.env))) := by rfl) :
    DE X W (mtdF m tab fo []) (.Call (.Attribute o m apos) [] [] pos) := by
  refine ⟨fun pins s σ H Q I h => ?_⟩
  obtain ⟨ι, fr, S, hS, hF, h⟩ := h
  unfold mtdF bnd at h
  rcases nox_inv (mm := fo fr) (S := S) with ⟨d, S1, e1, e2⟩ | e2
  · rw [e2] at h
    dsimp only at h
    split at h
    · rename_i n c fl hins
      split at h
      · rename_i hno
        split at h
        · rename_i G hG
          obtain ⟨j, l, dds, F, hM, hj, hn, rfl⟩ := T.get hG
          obtain ⟨C, g, fd, ps, ds, dvs, hmg, hcl, hme, hfn, hbi, hva, hdd⟩ := hM.ex
          refine (pe_meth0 (E := fun _ _ _ => False) ho hcl hme hfn (hr.mono hj) hbi hva pass0 ht).run pins s σ H Q I ⟨ι, fr, S, hS, hF, ?_⟩
          rw [e1]
          intro ι1 H1 m1 s1 v r1
          obtain ⟨a, C', dx, vs, rfl, hi, hm, hat, hk⟩ := ins_at s1 r1 hins
          rw [hmg] at hm
          cases hm
          obtain ⟨rfl, _⟩ := insS_of hins
          refine ⟨a, dx, vs, rfl, hat, hk.lookup_none hno, ?_⟩
          refine ⟨ι1, (.ob n :: []) ++ dds, S1, s1, ?_, by simp; omega, ?_⟩
          · exact ⟨.ref a, _, rfl, ⟨a, rfl, hi⟩, hdd _ _⟩
          · exact Po.nox (Po.from m1 h)
        · exact h.elim
      · exact h.elim
    · exact h.elim
  · rw [e2] at h
    exact h.elim
theorem DE_prp (T : TabP X.prog X.w X.K X.mg X.base k f tab) (hr : Room k X.A) (ho : DE X W fo o) (hab : attributeBase o f X.env (eval o X.env) = eval o X.env := by rfl) : DE X W (prpF tab fo) (.Attribute o f pos) := by
  refine ⟨fun pins s σ H Q I h => ?_⟩
  obtain ⟨ι, fr, S, hS, hF, h⟩ := h
  unfold prpF bnd at h
  rcases nox_inv (mm := fo fr) (S := S) with ⟨d, S1, e1, e2⟩ | e2
  · rw [e2] at h
    dsimp only at h
    split at h
    · rename_i n c fl hins
      split at h
      · rename_i G hG
        obtain ⟨j, hM, hj⟩ := T.get hG
        obtain ⟨C, p, g, fd, ps, hmg, hcl, hpr, hfn, hbi⟩ := hM.ex
        refine (pe_prop (E := fun _ _ _ => False) (dvs := []) (ds := []) ho hcl hpr hfn (hr.mono hj) hbi .nil pass0 hab).run pins s σ H Q I ⟨ι, fr, S, hS, hF, ?_⟩
        rw [e1]
        intro ι1 H1 m1 s1 v r1
        obtain ⟨a, C', dx, vs, rfl, hi, hm, hat, hk⟩ := ins_at s1 r1 hins
        rw [hmg] at hm
        cases hm
        obtain ⟨rfl, _⟩ := insS_of hins
        refine ⟨a, dx, vs, rfl, hat, ι1, [.ob n], S1, s1, ⟨.ref a, _, rfl, ⟨a, rfl, hi⟩, rfl⟩, rfl, Po.nox (Po.from m1 h)⟩
      · exact h.elim
    · exact h.elim
  · rw [e2] at h
    exact h.elim
/-- a new instance in the store -/
theorem made_in {K : PySem.W.Frag} {mg : Str → Option Value} {ι : List Addr} {S : Store} {H : Hp} {c : Str} {C x dx : Addr} (s : SR K mg ι S H) (hm : mg c = some (.ref C)) (hx : H x = none) (hd : H dx = none) (ne : dx ≠ x) :
    Mn ι H (ι ++ [x]) (upd (upd H dx (.own x)) x (.ins C dx [])) ∧ SR K mg (ι ++ [x]) (S ++ [some (.ins c [])]) (upd (upd H dx (.own x)) x (.ins C dx [])) := by
  have hx' : (upd H dx (.own x)) x = none := by rw [upd_ne ne.symm]; exact hx
  exact ⟨(Mn.fresh hd).trans (Mn.new hx'), (s.fresh hd).new hx' (by intro _ z; cases z) ⟨C, dx, [], hm, upd_same, rfl⟩⟩
theorem DE_mak {j n : Nat} {dds : List D} {F : List D → M D} (h : IniD X.prog X.w X.K X.mg X.base CX0 j x n dds F) (hr : Room (j + 1) X.A) (hg : Gl X x) (hn : fs.length + 1 + dds.length = n) (ha : DA X W (seqA fs) (e :: es))
    (hdb : (x == ("__debug__" : Str)) = false := by decide) (he : starEach (e :: es) X.env = (false, eval e X.env) :: starEach es X.env := by rfl) (hpl : (backTo pos (starEach es X.env)).any (·.1) = false := by rfl) :
    DE X W (makF x (fun xs => F (xs ++ dds)) fs) (.Call (.Name x p) (e :: es) [] pos) := by
  obtain ⟨C, g, fd, ps, ds, dvs, hmg, hM, hfn, hbi, hva, hdd⟩ := h.ex
  refine ⟨fun pins s σ H Q I h => ?_⟩
  obtain ⟨ι, fr, S, hS, hF, h⟩ := h
  refine (pe_make (E := fun _ _ _ => False) hM hfn hr hg hmg hbi hva pass0 ha hdb he hpl).run pins s σ H Q I ⟨ι, fr, S, hS, hF, ?_⟩
  refine h.bndE.imp (fun xs S1 ι1 H1 m1 s1 q vs r1 => ?_) fun _ _ _ _ _ _ z => z
  obtain ⟨hq, q⟩ := q
  have hl := seqA_len hq
  intro x' dx hx hd ne
  obtain ⟨m2, s2⟩ := made_in s1 hmg hx hd ne
  refine ⟨_, (.ob S1.length :: xs) ++ dds, _, s2, ⟨.ref x', _, rfl, ⟨x', rfl, ?_⟩, (m2.rps r1).app (hdd _ _)⟩, by simp [hl]; omega, ?_⟩
  · rw [s1.len]; simp
  · dsimp only at q
    split at q
    · rename_i S2 hr2
      rw [hr2]
      intro ι3 H3 m3 s3 v rv
      refine ⟨rv, q ι3 H3 (m2.trans m3) s3 _ ⟨x', rfl, m3.ix ?_⟩⟩
      rw [s1.len]; simp
    · exact q.elim
/-- C() where there is no own __init__ -/
structure MkO (K : PySem.W.Frag) (C : Addr) : Prop where
  makes : PySem.W.makesIn K C = true
  init : PySem.W.findIn K (.ref C) "__init__" = some (some (.builtin "object.__init__"))
  top : PySem.W.mroIn K C (.type "object") = some true
  kp : PySem.W.keepIn K (.ref C) = true
def MkOD (K : PySem.W.Frag) (mg : Str → Option Value) (c : Str) : Prop := ∃ C, mg c = some (.ref C) ∧ MkO K C
def tMakeO (C : Addr) : TE := fun _ H Q => ∀ x dx, H x = none → H dx = none → dx ≠ x → Q (.ref x) (upd (upd H dx (.own x)) x (.ins C dx []))
theorem pe_makeO {C : Addr} (M : MkO X.K C) (hg : Gl X x) (hm : X.mg x = some (.ref C)) (hdb : (x == ("__debug__" : Str)) = false := by decide) : PE X (.Call (.Name x p) [] [] pos) (tMakeO C) := by
  refine ⟨fun pins s σ H Q I h => ?_⟩
  refine wpAny_Call_Name_kw (ld_glob I hg hm ?_ hdb)
  refine PySem.W.callWith_K0 I.kIn M.kp ?_
  have hq := h (s.heap.objs.size + 1) s.heap.objs.size (I.hok.fresh (Nat.le_succ _)) (I.hok.fresh (Nat.le_refl _)) (Nat.ne_of_lt (Nat.lt_succ_self _))
  have I2 := Inv.made (C := C) I
  have hobj : ((s.heap.push PySem.W.emptyDict).push (PySem.W.instObj C s.heap.objs.size)).get? (s.heap.objs.size + 1) = some (PySem.W.instObj C s.heap.objs.size) := by
    have := Heap.get?_push_size (s.heap.push PySem.W.emptyDict) (o := PySem.W.instObj C s.heap.objs.size) rfl
    rwa [Heap.size_push] at this
  refine wpAny_call (make_map0 I.kIn M.makes M.init (fun self => PySem.W.Looks.of_pure (PySem.W.oi_bind self)) ?_)
  have t1 : PySem.W.Looks (model X.prog X.w) ((s.heap.push PySem.W.emptyDict).push (PySem.W.instObj C s.heap.objs.size)) (typeOf (.ref (s.heap.objs.size + 1))) (.ref C) := (PySem.W.Looks.ld hobj).andThen .now
  have t2 : PySem.W.Looks (model X.prog X.w) ((s.heap.push PySem.W.emptyDict).push (PySem.W.instObj C s.heap.objs.size)) (isInstance (.ref (s.heap.objs.size + 1)) (.type "object")) true := t1.andThen (PySem.W.looks_mroIn I2.kIn M.top)
  refine codeAny_call_builtin PySem.W.oi_plain PySem.W.entry_oi (@PySem.W.check_slot (model X.prog X.w) _ _ _ "object.__init__" "object" "__init__" (.ref (s.heap.objs.size + 1)) [] [] _ PySem.W.oi_kind PySem.W.oi_split t2 (PySem.W.oi_args (.ref (s.heap.objs.size + 1))) ?_)
  rw [PySem.W.oi_run]
  exact wpAny_pure (And.intro rfl ⟨V.ref (s.heap.objs.size + 1), _, I2, rfl, hq⟩)
theorem DE_makO (h : MkOD X.K X.mg x) (hg : Gl X x) (hdb : (x == ("__debug__" : Str)) = false := by decide) : DE X W (makO x) (.Call (.Name x p) [] [] pos) := by
  obtain ⟨C, hm, M⟩ := h
  refine ⟨fun pins s σ H Q I h => ?_⟩
  obtain ⟨ι, fr, S, hS, hF, h⟩ := h
  refine (pe_makeO M hg hm hdb).run pins s σ H Q I fun x' dx hx hd ne => ?_
  obtain ⟨m2, s2⟩ := made_in hS hm hx hd ne
  refine h _ _ m2 s2 _ ⟨x', rfl, ?_⟩
  rw [hS.len]; simp
end
end DL
namespace DL
open PySem PySem.Spec PyProof.Rows L2
open SeqAt (shaped)
/-! ### dicts -/
def keyD : D → Option Key
  | .int i => some (.inl i)
  | .str s => some (.inr s)
  | _ => none
def keysL : List D → Option (List Key)
  | [] => some []
  | d :: r => match keyD d, keysL r with
    | some k, some ks => some (k :: ks)
    | _, _ => none
section
variable {κ : Type} [DecidableEq κ]
def valD (l : List (κ × D)) (k : κ) : Option D := (l.find? fun kv => decide (kv.1 = k)).map (·.2)
def putKD (l : List (κ × D)) (k : κ) (v : D) : List (κ × D) :=
  if (l.any fun kv => decide (kv.1 = k)) = true then l.map (fun kv => if kv.1 = k then (kv.1, v) else kv) else l ++ [(k, v)]
end
section
variable {K : PySem.W.Frag} {mg : Str → Option Value} {ι : List Addr} {H : Hp} {κ : Type} [DecidableEq κ]
theorem keyD_rp {d : D} {v : V} {k : Key} (r : Rp K ι H d v) (h : keyD d = some k) : v = kV k := by
  cases d with
  | int i => cases h; cases r; rfl
  | str i => cases h; cases r; rfl
  | _ => cases h
theorem keysL_rps : ∀ {l : List D} {vs : List V} {ks : List Key}, Rps K ι H l vs → keysL l = some ks → vs = ks.map kV
  | [], _, _, r, h => by cases h; cases r; rfl
  | d :: l, _, ks, r, h => by
    obtain ⟨v, w, rfl, r1, r2⟩ := r
    unfold keysL at h
    cases e1 : keyD d with
    | none => rw [e1] at h; cases h
    | some k =>
      cases e2 : keysL l with
      | none => rw [e1, e2] at h; cases h
      | some k2 =>
        rw [e1, e2] at h
        cases h
        rw [keyD_rp r1 e1, keysL_rps r2 e2]
        rfl
theorem Rkv.val {k : κ} : ∀ {l : List (κ × D)} {vs : List (κ × V)}, Rkv K ι H l vs → (valD l k = none ∧ valV vs k = none) ∨ ∃ d v, valD l k = some d ∧ valV vs k = some v ∧ Rp K ι H d v
  | [], _, h => by cases h; exact .inl ⟨rfl, rfl⟩
  | (k', d) :: r, _, h => by
    obtain ⟨v, w, rfl, h1, h2⟩ := h
    unfold valD valV
    by_cases e : k' = k
    · right
      refine ⟨d, v, ?_, ?_, h1⟩ <;> simp [List.find?_cons, e]
    · have := Rkv.val (k := k) h2
      unfold valD valV at this
      simpa [List.find?_cons, e] using this
theorem Rkv.app {l m : List (κ × D)} : ∀ {vs ws : List (κ × V)}, Rkv K ι H l vs → Rkv K ι H m ws → Rkv K ι H (l ++ m) (vs ++ ws) := by
  induction l with
  | nil => intro vs ws h h'; cases h; exact h'
  | cons x r ih =>
    intro vs ws h h'
    obtain ⟨v, w, rfl, h1, h2⟩ := h
    exact ⟨v, _, rfl, h1, ih h2 h'⟩
theorem Rkv.any {k : κ} : ∀ {l : List (κ × D)} {vs : List (κ × V)}, Rkv K ι H l vs → (l.any fun kv => decide (kv.1 = k)) = vs.any fun kv => decide (kv.1 = k)
  | [], _, h => by cases h; rfl
  | (k', d) :: r, _, h => by
    obtain ⟨v, w, rfl, h1, h2⟩ := h
    simp only [List.any_cons, Rkv.any h2]
theorem Rkv.mapPut {k : κ} {d : D} {v : V} (q : Rp K ι H d v) : ∀ {l : List (κ × D)} {vs : List (κ × V)}, Rkv K ι H l vs → Rkv K ι H (l.map fun kv => if kv.1 = k then (kv.1, d) else kv) (vs.map fun kv => if kv.1 = k then (kv.1, v) else kv)
  | [], _, h => by cases h; rfl
  | (k', d') :: r, _, h => by
    obtain ⟨u, w, rfl, h1, h2⟩ := h
    simp only [List.map_cons]
    by_cases e : k' = k
    · simp only [e, if_true]
      exact ⟨v, _, rfl, q, by simpa [e] using Rkv.mapPut q h2⟩
    · simp only [e, if_false]
      exact ⟨u, _, rfl, h1, Rkv.mapPut q h2⟩
theorem Rkv.putK {k : κ} {d : D} {v : V} (q : Rp K ι H d v) {l : List (κ × D)} {vs : List (κ × V)} (h : Rkv K ι H l vs) : Rkv K ι H (putKD l k d) (L2.putK vs k v) := by
  unfold putKD L2.putK
  rw [h.any]
  by_cases e : (vs.any fun kv => decide (kv.1 = k)) = true
  · rw [if_pos e, if_pos e]; exact h.mapPut q
  · rw [if_neg e, if_neg e]; exact h.app ⟨v, [], rfl, q, rfl⟩
end
/-- d[y] -/
def dgtD (x y : D) : M D := fun S => match x with
  | .ob n => (match S[n]? with
    | some (some (.dk l)) => (match (keyD y).bind (valD l) with
      | some d => .ok d S
      | none => .bad)
    | some (some (.dt l)) => (match y with
      | .tup ys => (match (keysL ys).bind (valD l) with
        | some d => .ok d S
        | none => .bad)
      | _ => .bad)
    | _ => .bad)
  | _ => .bad
/-- d[y] = v -/
def dstD (x y v : D) : M Unit := fun S => match x with
  | .ob n => (match S[n]? with
    | some (some (.dk l)) => (match keyD y with
      | some k => if l.length < 100000 then .ok () (S.set n (some (.dk (putKD l k v)))) else .bad
      | none => .bad)
    | some (some (.dt l)) => (match y with
      | .tup ys => (match keysL ys with
        | some k => if l.length < 100000 then .ok () (S.set n (some (.dt (putKD l k v)))) else .bad
        | none => .bad)
      | _ => .bad)
    | _ => .bad)
  | _ => .bad
def tgDic (fo fi : Frame → M D) : D → Frame → M Frame := fun d fr => bnd (nox (fo fr)) fun o => bnd (nox (fi fr)) fun i => bnd (dstD o i d) fun _ => ret fr
def dctK : Frame → M D := fun _ => newO (.dk [])
def dctT : Frame → M D := fun _ => newO (.dt [])
theorem hundred {n : Nat} (h : n < 100000) : n < sizeLine := by rw [sizeLine_eq]; omega
section
variable {X : Cx} {W : WE} {a b c e e2 tg : Expr} {es : List Expr} {pos p tpos : Pos} {fa fb fc : Frame → M D} {ι : List Addr} {H : Hp} {σ : L2.St} {s : Shared} {pins : List (Addr × Obj)} {fs : List (Frame → M D)} {elts : List Expr} {kk : Nat}
theorem DE_dget (hu : X.A.units + 64 < cLine) (ha : DE X W fa a) (hb : DE X W fb b) (hs : NoSl b := by exact fun _ _ => rfl) : DE X W (binF dgtD fa fb) (.Subscript a b pos) := by
  refine DE.of (pe_dget (by omega) ha hb hs) fun σ H Q ι fr S s f h => ⟨ι, fr, S, s, f, h.bnd.imp (fun x S1 ι1 H1 m1 s1 q v r1 => ⟨ι1, fr, S1, s1, m1.fr f, q.bnd.imp (fun y S2 ι2 H2 m2 s2 q u r2 => ?_) fun _ _ _ _ _ _ z => z⟩) fun _ _ _ _ _ _ z => z⟩
  replace r1 := m2.rp r1
  unfold dgtD at q
  cases x with
  | ob n =>
    obtain ⟨p, rfl, hi⟩ := r1
    dsimp only at q
    cases hS : S2[n]? with
    | none => rw [hS] at q; exact q.bad
    | some oo =>
      rw [hS] at q
      cases oo with
      | none => exact q.bad
      | some o =>
        obtain ⟨p', e1, ho⟩ := s2.obj n _ hS
        rw [hi] at e1
        cases e1
        cases o with
        | dk l =>
          obtain ⟨vs, hp, hk⟩ := ho
          cases hy : keyD y with
          | none => simp only [hy, Option.bind] at q; exact q.bad
          | some k =>
            have hv := keyD_rp r2 hy
            subst hv
            rcases hk.val (k := k) with ⟨e1, e2⟩ | ⟨d, w, e1, e2, rw'⟩
            · simp only [hy, Option.bind, e1] at q; exact q.bad
            · simp only [hy, Option.bind, e1] at q
              exact ⟨p, w, rfl, by rw [← e2]; exact DGet.k hp, .inl (q.ok s2 _ rw')⟩
        | dt l =>
          obtain ⟨vs, hp, hk⟩ := ho
          cases y with
          | tup ys =>
            obtain ⟨t, us, rfl, ht, hus⟩ := r2
            cases hy : keysL ys with
            | none => simp only [hy, Option.bind] at q; exact q.bad
            | some k =>
              have hv := keysL_rps hus hy
              subst hv
              rcases hk.val (k := k) with ⟨e1, e2⟩ | ⟨d, w, e1, e2, rw'⟩
              · simp only [hy, Option.bind, e1] at q; exact q.bad
              · simp only [hy, Option.bind, e1] at q
                exact ⟨p, w, rfl, by rw [← e2]; exact DGet.t hp ht, .inl (q.ok s2 _ rw')⟩
          | _ => exact q.bad
        | _ => exact q.bad
  | _ => exact q.bad
theorem DG_dic (hu : X.A.units + 64 < cLine) (ho : DE X W fa a) (hi : DE X W fb b)
    (has : ∀ v, assign (.Subscript a b pos) X.env v = (do
      let ov ← holding [v] (eval a X.env)
      let iv ← holding [v, ov] (eval b X.env)
      standAt pos
      holding [v, ov, iv] (setItem ov iv v)
      release [v, ov, iv] []) := by intro _; rfl) : DG X [] (tgDic fa fb) (.Subscript a b pos) := by
  refine ⟨fun pins s σ H v u Q I r h => ?_⟩
  obtain ⟨ι, fr, S, d, hS, hF, hr, h⟩ := h
  refine (pg_sub ho hi (set_dict (by omega)) has).run pins s σ H v u Q I r ?_
  refine ⟨ι, fr, S, hS, hF, ?_⟩
  refine Po.noxk (e := fun _ _ _ _ => False) ?_
  refine Po.imp (Po.bnd h) (fun o S1 ι1 H1 m1 s1 h1 ov ro => ?_) (fun _ _ _ _ _ _ z => z)
  refine ⟨ι1, fr, S1, s1, m1.fr hF, ?_⟩
  refine Po.noxk (e := fun _ _ _ _ => False) ?_
  refine Po.imp (Po.bnd h1) (fun i S2 ι2 H2 m2 s2 h2 iv ri => ?_) (fun _ _ _ _ _ _ z => z)
  have ro2 := m2.rp ro
  have rv2 := (m1.trans m2).rp hr
  have h2' := h2.bndE
  unfold dstD at h2'
  split at h2'
  · rename_i n
    obtain ⟨p, rfl, hix⟩ := ro2
    split at h2'
    · rename_i l hl
      obtain ⟨p', e1, vs, hp, hk⟩ := s2.obj n _ hl
      rw [hix] at e1
      cases e1
      split at h2'
      · rename_i k hy
        split at h2'
        · rename_i hlen
          have hv := keyD_rp ri hy
          subst hv
          have mw := Mn.write (u := .dK (L2.putK vs k v)) s2 hix hl
          have s3 : SR X.K X.mg ι2 (S2.set n (some (.dk (putKD l k d)))) (upd H2 p (.dK (L2.putK vs k v))) := s2.write hix hl (by intro _ z; cases z) fun z hz => by
            cases hz
            exact ⟨_, upd_same, (mw.rkv hk).putK (mw.rp rv2)⟩
          exact ⟨p, _, rfl, DPut.k hp (hundred (by rw [← hk.length]; exact hlen)), (h2' _ _ mw s3).2.ok s3 σ (((m1.trans m2).trans mw).fr hF) Tch.refl⟩
        · exact h2'.bad
      · exact h2'.bad
    · rename_i l hl
      obtain ⟨p', e1, vs, hp, hk⟩ := s2.obj n _ hl
      rw [hix] at e1
      cases e1
      split at h2'
      · rename_i ys
        split at h2'
        · rename_i k hy
          split at h2'
          · rename_i hlen
            obtain ⟨t, us, rfl, ht, hus⟩ := ri
            have hv := keysL_rps hus hy
            subst hv
            have mw := Mn.write (u := .dT (L2.putK vs k v)) s2 hix hl
            have s3 : SR X.K X.mg ι2 (S2.set n (some (.dt (putKD l k d)))) (upd H2 p (.dT (L2.putK vs k v))) := s2.write hix hl (by intro _ z; cases z) fun z hz => by
              cases hz
              exact ⟨_, upd_same, (mw.rkv hk).putK (mw.rp rv2)⟩
            exact ⟨p, _, rfl, DPut.t hp ht (hundred (by rw [← hk.length]; exact hlen)), (h2' _ _ mw s3).2.ok s3 σ (((m1.trans m2).trans mw).fr hF) Tch.refl⟩
          · exact h2'.bad
        · exact h2'.bad
      · exact h2'.bad
    · exact h2'.bad
  · exact h2'.bad
theorem ob_new {ι : List Addr} {S : Store} {H : Hp} {Q : VK} {o : O} {u : HO} {e : Exc → Store → List Addr → Hp → Prop} (s : SR X.K X.mg ι S H) (hu : ∀ xs, u ≠ .tup xs) (r : ∀ ι' p H', Mn ι H ι' H' → H' p = some u → OR X.K ι' H' X.mg o p) (h : Po X.K X.mg ι H (newO o S) (kE X.K Q) e)
    (p : Addr) (hp : H p = none) : Q (.ref p) (upd H p u) := by
  have m : Mn ι H (ι ++ [p]) (upd H p u) := Mn.new hp
  refine h _ _ m (s.new hp hu (r _ p _ m upd_same)) _ ⟨p, rfl, ?_⟩
  rw [s.len]; simp
theorem DE_dctK : DE X W dctK (.Dict [] [] pos) := DE.of pe_dnewK fun σ H Q ι fr S s f h p hp => .inl (ob_new (o := .dk []) s (by intro _ z; cases z) (fun _ p _ _ hp => ⟨[], hp, rfl⟩) h p hp)
theorem DE_dctT : DE X W dctT (.Dict [] [] pos) := DE.of pe_dnewT fun σ H Q ι fr S s f h p hp => .inl (ob_new (o := .dt []) s (by intro _ z; cases z) (fun _ p _ _ hp => ⟨[], hp, rfl⟩) h p hp)
/-! ### displays of dicts -/
def pairsF : List ((Frame → M D) × (Frame → M D)) → Frame → M (List (D × D))
  | [], _ => ret []
  | (f, g) :: r, fr => bnd (f fr) fun x => bnd (g fr) fun y => bnd (pairsF r fr) fun ps => ret ((x, y) :: ps)
def keyedD : List (D × D) → Option (List (Key × D))
  | [] => some []
  | (x, y) :: r => match keyD x, keyedD r with
    | some k, some ks => some ((k, y) :: ks)
    | _, _ => none
def mergeD (l more : List (Key × D)) : List (Key × D) := more.foldl (fun acc kv => putKD acc kv.1 kv.2) l
def dispF (fs : List ((Frame → M D) × (Frame → M D))) : Frame → M D := fun fr => bnd (pairsF fs fr) fun ps => fun S => match keyedD ps with
  | some l => newO (.dk (mergeD [] l)) S
  | none => .bad
/-- an object that stands is taken into the store -/
theorem SR.adopt {ι : List Addr} {S : Store} {H : Hp} (s : SR X.K X.mg ι S H) {p : Addr} {w u : HO} {o : O} (hp : H p = some w) (ht : ∀ xs, w ≠ .tup xs) (hf : ∀ o x, w ≠ .frz o x) (hn : p ∉ ι) (hu : ∀ xs, u ≠ .tup xs) (r : OR X.K (ι ++ [p]) (upd H p u) X.mg o p) :
    SR X.K X.mg (ι ++ [p]) (S ++ [some o]) (upd H p u) := by
  have s1 : SR X.K X.mg ι S (upd H p u) := s.other hp ht hf hn
  have m1 : Mw ι (upd H p u) (ι ++ [p]) (upd H p u) := ⟨⟨[p], rfl⟩, fun _ _ h => h, fun _ _ _ h => h⟩
  refine ⟨?_, by simp [s.len], fun a ha => ?_, fun n o' e => ?_⟩
  · rw [List.nodup_append]
    exact ⟨s.nd, by simp, fun a ha b hb => by simp at hb; subst hb; exact fun z => hn (z ▸ ha)⟩
  · rcases List.mem_append.mp ha with ha | ha
    · exact s1.occ a ha
    · simp at ha
      subst ha
      rw [upd_same]
      exact ⟨by simp, fun xs z => hu xs (Option.some.inj z)⟩
  · by_cases hl : n < S.length
    · rw [List.getElem?_append_left hl] at e
      obtain ⟨a, e1, r1⟩ := s1.obj n o' e
      exact ⟨a, m1.ix e1, m1.or rfl r1⟩
    · rw [List.getElem?_append_right (by omega)] at e
      have hz : n - S.length = 0 := by
        cases q : n - S.length with
        | zero => rfl
        | succ k => rw [q] at e; simp at e
      rw [hz] at e
      simp at e
      subst e
      refine ⟨p, ?_, r⟩
      have : n = ι.length := by have := s.len; omega
      subst this
      simp
/-- the derivation of a display's pairs -/
inductive DPs (X : Cx) (W : WE) (pos : Pos) : List (Option Expr) → List Expr → List ((Frame → M D) × (Frame → M D)) → Prop where
  | nil : DPs X W pos [] [] []
  | cons {k v : Expr} {ks : List (Option Expr)} {vs : List Expr} {f g : Frame → M D} {fs : List ((Frame → M D) × (Frame → M D))} (h1 : DE X W f k) (h2 : DE X W g v) (r : DPs X W pos ks vs fs) : DPs X W pos (some k :: ks) (v :: vs) ((f, g) :: fs)
theorem DPs.pps {ks : List (Option Expr)} {vs : List Expr} {fs : List ((Frame → M D) × (Frame → M D))} (h : DPs X W pos ks vs fs) : PPs X pos ks vs (fs.map fun p => (trE X.K X.mg W p.1, trE X.K X.mg W p.2)) := by
  induction h with
  | nil => exact pps_nil
  | cons h1 h2 _ ih => exact pps_cons h1 h2 ih
def RpP (K : PySem.W.Frag) (ι : List Addr) (H : Hp) : List (D × D) → List (V × V) → Prop
  | [], vs => vs = []
  | (x, y) :: r, vs => ∃ v w t, vs = (v, w) :: t ∧ Rp K ι H x v ∧ Rp K ι H y w ∧ RpP K ι H r t
theorem Mn.rpP {K : PySem.W.Frag} {ι ι' : List Addr} {H H' : Hp} (m : Mn ι H ι' H') : ∀ {l : List (D × D)} {vs : List (V × V)}, RpP K ι H l vs → RpP K ι' H' l vs
  | [], _, h => h
  | (x, y) :: r, _, h => by
    obtain ⟨v, w, t, e, h1, h2, h3⟩ := h
    exact ⟨v, w, t, e, m.rp h1, m.rp h2, m.rpP h3⟩
theorem pairs_in {W : WE} {Q : List (V × V) → Hp → Prop} : ∀ (fs : List ((Frame → M D) × (Frame → M D))) (ι : List Addr) (H : Hp) (fr : Frame) (S : Store), SR X.K X.mg ι S H → FR X.K ι fr σ H → Po X.K X.mg ι H (pairsF fs fr S) (fun l _ ι' H' => ∀ vs, RpP X.K ι' H' l vs → Q vs H') (kX X.K X.mg W σ) →
    tPairs (fs.map fun p => (trE X.K X.mg W p.1, trE X.K X.mg W p.2)) σ H Q
  | [], ι, H, fr, S, s, f, h => h.ok s _ rfl
  | (f1, g1) :: r, ι, H, fr, S, s, f, h => by
    have h' : Po X.K X.mg ι H (bnd (f1 fr) (fun x => bnd (g1 fr) fun y => bnd (pairsF r fr) fun ps => ret ((x, y) :: ps)) S) _ _ := h
    refine ⟨ι, fr, S, s, f, h'.bnd.imp (fun x S1 ι1 H1 m1 s1 q v rv => ?_) fun _ _ _ _ _ _ z => z⟩
    refine ⟨ι1, fr, S1, s1, m1.fr f, q.bnd.imp (fun y S2 ι2 H2 m2 s2 q w rw' => ?_) fun _ _ _ _ _ _ z => z⟩
    refine pairs_in (Q := fun ps H3 => Q ((v, w) :: ps) H3) r ι2 H2 fr S2 s2 ((m1.trans m2).fr f) (q.bnd.imp (fun ps S3 ι3 H3 m3 s3 q vs rvs => ?_) fun _ _ _ _ _ _ z => z)
    exact q.ok s3 _ ⟨v, w, vs, rfl, (m2.trans m3).rp rv, m3.rp rw', rvs⟩
theorem keyed_rp {K : PySem.W.Frag} {ι : List Addr} {H : Hp} : ∀ {ps : List (D × D)} {vs : List (V × V)} {l : List (Key × D)}, RpP K ι H ps vs → keyedD ps = some l → ∃ kvs : List (Key × V), vs = kvs.map (fun kv => (kV kv.1, kv.2)) ∧ Rkv K ι H l kvs ∧ l.length = ps.length
  | [], _, _, r, h => by cases r; cases h; exact ⟨[], rfl, rfl, rfl⟩
  | (x, y) :: ps, _, l, r, h => by
    obtain ⟨v, w, t, rfl, h1, h2, h3⟩ := r
    unfold keyedD at h
    cases e1 : keyD x with
    | none => rw [e1] at h; cases h
    | some k =>
      cases e2 : keyedD ps with
      | none => rw [e1, e2] at h; cases h
      | some l2 =>
        rw [e1, e2] at h
        cases h
        obtain ⟨kvs, rfl, hr, hl⟩ := keyed_rp h3 e2
        have := keyD_rp h1 e1
        subst this
        exact ⟨(k, w) :: kvs, rfl, ⟨w, kvs, rfl, h2, hr⟩, by simp [hl]⟩
theorem merge_rp {K : PySem.W.Frag} {ι : List Addr} {H : Hp} : ∀ {more : List (Key × D)} {mv : List (Key × V)} {l : List (Key × D)} {lv : List (Key × V)}, Rkv K ι H more mv → Rkv K ι H l lv → Rkv K ι H (mergeD l more) (mergeK lv mv)
  | [], _, l, lv, h, h' => by cases h; exact h'
  | (k, d) :: r, _, l, lv, h, h' => by
    obtain ⟨v, w, rfl, h1, h2⟩ := h
    show Rkv K ι H (mergeD (putKD l k d) r) (mergeK (L2.putK lv k v) w)
    exact merge_rp h2 (h'.putK h1)
theorem bnd_inv {α β : Type} {m : M α} {f : α → M β} {S S' : Store} {b : β} (h : bnd m f S = .ok b S') : ∃ a S1, m S = .ok a S1 ∧ f a S1 = .ok b S' := by
  unfold bnd at h
  cases e : m S with
  | ok a S1 => rw [e] at h; exact ⟨a, S1, rfl, h⟩
  | err x S1 => rw [e] at h; cases h
  | bad => rw [e] at h; cases h
theorem pairsF_len : ∀ {fs : List ((Frame → M D) × (Frame → M D))} {fr : Frame} {S S' : Store} {l : List (D × D)}, pairsF fs fr S = .ok l S' → l.length = fs.length
  | [], _, _, _, _, h => by cases h; rfl
  | (f, g) :: fs, fr, S, S', l, h => by
    obtain ⟨x, S1, _, h⟩ := bnd_inv h
    obtain ⟨y, S2, _, h⟩ := bnd_inv h
    obtain ⟨ps, S3, e3, h⟩ := bnd_inv h
    cases h
    simp [pairsF_len e3]
theorem DE_disp {keys : List (Option Expr)} {values : List Expr} {fs : List ((Frame → M D) × (Frame → M D))} (h : DPs X W pos keys values fs) (hall : keys.all (·.isSome) = true := by rfl) (hl : keys.length = values.length := by rfl) (h0 : keys ≠ [] := by simp) (h15 : keys.length ≤ 15 := by decide) (hfl : fs.length ≤ 15 := by decide) :
    DE X W (dispF fs) (.Dict keys values pos) := by
  refine DE.of (pe_disp h.pps hall hl h0 h15) fun σ H Q ι fr S s f h => fun p hp => ?_
  have mf : Mn ι H ι (upd H p (.dK [])) := Mn.fresh hp
  have hpi : p ∉ ι := fun z => (s.occ p z).1 hp
  have hh : Po X.K X.mg ι H (pairsF fs fr S) (fun ps S1 _ _ => ps.length = fs.length ∧ Po X.K X.mg ι H ((match keyedD ps with
      | some l => newO (.dk (mergeD [] l)) S1
      | none => .bad : R D)) (kE X.K (Fz Q)) (kX X.K X.mg W σ)) (kX X.K X.mg W σ) := by
    unfold dispF bnd at h
    cases hq : pairsF fs fr S with
    | ok ps S1 =>
      rw [hq] at h
      intro ι1 H1 m1 s1
      refine ⟨pairsF_len hq, ?_⟩
      dsimp only at h
      cases hk : keyedD ps with
      | some l =>
        rw [hk] at h
        intro ι2 H2 m2 s2 v r
        exact .inl (h ι2 H2 m2 s2 v r)
      | none => rw [hk] at h; exact h.elim
    | err x S1 => rw [hq] at h; exact h
    | bad => rw [hq] at h; exact h
  refine pairs_in fs ι _ fr S (s.fresh hp) (mf.fr f) ((Po.from mf hh).imp (fun ps S1 ι1 H1 m1 s1 q vs r1 => ?_) fun _ _ _ _ _ _ z => z)
  obtain ⟨hlen, q⟩ := q
  have hp1 : H1 p = some (.dK []) := m1.kept p _ upd_same hpi
  have hpn : p ∉ ι1 := fun z => by
    obtain ⟨t, rfl, ht⟩ := m1.pre
    rcases List.mem_append.mp z with z | z
    · exact hpi z
    · have := ht p z; rw [upd_same] at this; cases this
  cases hk : keyedD ps with
  | some l =>
    rw [hk] at q
    obtain ⟨kvs, rfl, hr, hl2⟩ := keyed_rp r1 hk
    have mw : Mw ι1 H1 (ι1 ++ [p]) (upd H1 p (.dK (mergeK [] kvs))) := by
      have m0 : Mw ι1 H1 ι1 (upd H1 p (.dK (mergeK [] kvs))) := Mw.other hp1 (by intro _ z; cases z) (by intro _ _ z; cases z)
      exact ⟨⟨[p], rfl⟩, m0.tups, m0.frzs⟩
    have s2 : SR X.K X.mg (ι1 ++ [p]) (S1 ++ [some (.dk (mergeD [] l))]) (upd H1 p (.dK (mergeK [] kvs))) :=
      s1.adopt hp1 (by intro _ z; cases z) (by intro _ _ z; cases z) hpn (by intro _ z; cases z) ⟨_, upd_same, merge_rp (mw.rkv hr) rfl⟩
    have mm : Mn ι H (ι1 ++ [p]) (upd H1 p (.dK (mergeK [] kvs))) := by
      have m3 := (mf.trans m1).other (u := .dK (mergeK [] kvs)) hp
      obtain ⟨t, et, ht⟩ := m3.pre
      refine ⟨⟨t ++ [p], by rw [et, List.append_assoc], fun a ha => ?_⟩, m3.live, m3.tups, m3.frzs, m3.kept⟩
      rcases List.mem_append.mp ha with ha | ha
      · exact ht a ha
      · simp at ha; subst ha; exact hp
    refine ⟨hp1, kvs, rfl, by rw [← hr.length, hl2, hlen]; exact hfl, ?_⟩
    refine q _ _ mm s2 _ ⟨p, rfl, ?_⟩
    rw [s1.len]; simp
  | none => rw [hk] at q; exact q.elim
/-! ### zip of two tuples, of two lists -/
def zipL : List D → List D → List D
  | x :: l, y :: m => .tup [x, y] :: zipL l m
  | _, _ => []
def zipS (l : List D) : M Src := fun S => match l with
  | [.tup l, .tup m] => .ok (fun _ => some (zipL l m)) S
  | [.lst l, .lst m] => .ok (fun _ => some (zipL l m)) S
  | _ => .bad
theorem zipL_get : ∀ {l m : List D} {i : Nat} {x : D}, (zipL l m)[i]? = some x → ∃ y z, l[i]? = some y ∧ m[i]? = some z ∧ x = .tup [y, z]
  | [], _, _, _, h => by simp [zipL] at h
  | _ :: _, [], _, _, h => by simp [zipL] at h
  | a :: l, b :: m, 0, x, h => by simp [zipL] at h; exact ⟨a, b, rfl, rfl, h.symm⟩
  | a :: l, b :: m, i + 1, x, h => by
    have h' : (zipL l m)[i]? = some x := by simpa [zipL] using h
    obtain ⟨y, z, h1, h2, h3⟩ := zipL_get h'
    exact ⟨y, z, by simpa using h1, by simpa using h2, h3⟩
theorem zipL_len : ∀ {l m : List D}, (zipL l m).length = min l.length m.length
  | [], _ => by simp [zipL]
  | _ :: _, [] => by simp [zipL]
  | a :: l, b :: m => by simp [zipL, zipL_len (l := l) (m := m)]
theorem pair2_new {ι : List Addr} {S : Store} {H : Hp} {T : Addr} {v w : V} {y z : D} (s : SR X.K X.mg ι S H) (hT : H T = none) (r : Rp X.K ι H y v) (r2 : Rp X.K ι H z w) :
    Mn ι H ι (upd H T (.tup [v, w])) ∧ SR X.K X.mg ι S (upd H T (.tup [v, w])) ∧ Rp X.K ι (upd H T (.tup [v, w])) (.tup [y, z]) (.ref T) :=
  ⟨Mn.fresh hT, s.fresh hT, T, _, rfl, upd_same, _, _, rfl, (Mn.fresh (ι := ι) hT).rp r, _, _, rfl, (Mn.fresh (ι := ι) hT).rp r2, rfl⟩
theorem ItD_zipT {A B : Addr} {l m : List D} : ItD X.K X.mg (RZ.ItzT X.K A B) (fun ι H => (∃ vs, SqT X.K H A vs ∧ Rps X.K ι H l vs) ∧ ∃ vs, SqT X.K H B vs ∧ Rps X.K ι H m vs) (fun _ => some (zipL l m)) := by
  refine ⟨fun _ _ _ _ mw ⟨⟨vs, h1, h2⟩, ws, h3, h4⟩ => ⟨⟨vs, mw.sqT h1, mw.rps h2⟩, ws, mw.sqT h3, mw.rps h4⟩, fun ι S H xs i s ⟨⟨vs, h1, h2⟩, ws, h3, h4⟩ h hl => ?_, fun ι S H xs i x s ⟨⟨vs, h1, h2⟩, ws, h3, h4⟩ h hx => ?_, fun ι S H xs i x v H' s ⟨⟨vs, h1, h2⟩, ws, h3, h4⟩ h hx hy => ?_⟩
  all_goals cases h
  · refine ⟨vs, ws, h1, h3, ?_⟩
    rw [← h2.length, ← h4.length]
    rw [zipL_len] at hl
    omega
  · obtain ⟨y, z, h5, h6, _⟩ := zipL_get hx
    obtain ⟨v, hv, _⟩ := h2.get h5
    obtain ⟨w, hw, _⟩ := h4.get h6
    exact ⟨vs, ws, v, w, h1, h3, hv, hw⟩
  · obtain ⟨y, z, h5, h6, rfl⟩ := zipL_get hx
    obtain ⟨v', hv, rv⟩ := h2.get h5
    obtain ⟨w', hw, rw'⟩ := h4.get h6
    obtain ⟨T, x', y', rfl, hT, rfl, hz1, hz2⟩ := hy
    have e1 := hz1 vs h1
    have e2 := hz2 ws h3
    rw [hv] at e1
    rw [hw] at e2
    cases e1; cases e2
    exact pair2_new s hT rv rw'
theorem ItD_zipL {A B : Addr} {l m : List D} : ItD X.K X.mg (Itz X.K A B) (fun ι H => (∃ vs, Ls X.K H A vs ∧ Rps X.K ι H l vs) ∧ ∃ vs, Ls X.K H B vs ∧ Rps X.K ι H m vs) (fun _ => some (zipL l m)) := by
  refine ⟨fun _ _ _ _ mw ⟨⟨vs, h1, h2⟩, ws, h3, h4⟩ => ⟨⟨vs, mw.ls h1, mw.rps h2⟩, ws, mw.ls h3, mw.rps h4⟩, fun ι S H xs i s ⟨⟨vs, h1, h2⟩, ws, h3, h4⟩ h hl => ?_, fun ι S H xs i x s ⟨⟨vs, h1, h2⟩, ws, h3, h4⟩ h hx => ?_, fun ι S H xs i x v H' s ⟨⟨vs, h1, h2⟩, ws, h3, h4⟩ h hx hy => ?_⟩
  all_goals cases h
  · refine ⟨vs, ws, h1.sq, h3.sq, ?_⟩
    rw [← h2.length, ← h4.length]
    rw [zipL_len] at hl
    omega
  · obtain ⟨y, z, h5, h6, _⟩ := zipL_get hx
    obtain ⟨v, hv, _⟩ := h2.get h5
    obtain ⟨w, hw, _⟩ := h4.get h6
    exact ⟨vs, ws, v, w, h1.sq, h3.sq, hv, hw⟩
  · obtain ⟨y, z, h5, h6, rfl⟩ := zipL_get hx
    obtain ⟨v', hv, rv⟩ := h2.get h5
    obtain ⟨w', hw, rw'⟩ := h4.get h6
    obtain ⟨T, x', y', rfl, hT, rfl, hz1, hz2⟩ := hy
    have e1 := hz1 vs h1.sq
    have e2 := hz2 ws h3.sq
    rw [hv] at e1
    rw [hw] at e2
    cases e1; cases e2
    exact pair2_new s hT rv rw'
theorem DI_zip (hg : Gl X "zip") (hm : X.mg "zip" = none) (ha : DA X W (seqA fs) [e, e2]) (hs : starEach [e, e2] X.env = (false, eval e X.env) :: starEach [e2] X.env := by rfl) (hpl : (backTo pos (starEach [e2] X.env)).any (·.1) = false := by rfl) :
    DI X W (rngF zipS fs) (.Tuple elts kk tpos) (.Call (.Name "zip" p) [e, e2] [] pos) := by
  refine ⟨_, RZ.pi_zipA hg hm ha hs hpl, fun σ H ι fr S R s f h => ⟨ι, fr, S, s, f, h.bnd.imp (fun l S1 ι1 H1 m1 s1 h1 vs r1 => ?_) fun _ _ _ _ _ _ z => z⟩⟩
  unfold zipS at h1
  split at h1
  · rename_i l m
    obtain ⟨v, t, rfl, ⟨a, us, rfl, hq, ru⟩, w, t2, rfl, ⟨b, ws, rfl, hq2, ru2⟩, rt⟩ := r1
    cases rt
    exact ⟨a, b, us, ws, rfl, .inr ⟨.of hq, .of hq2, h1.ok s1 _ _ ItD_zipT ⟨⟨us, .of hq, ru⟩, ws, .of hq2, ru2⟩⟩⟩
  · rename_i l m
    obtain ⟨v, t, rfl, ⟨a, us, rfl, hq, ru⟩, w, t2, rfl, ⟨b, ws, rfl, hq2, ru2⟩, rt⟩ := r1
    cases rt
    exact ⟨a, b, us, ws, rfl, .inl ⟨hq.sq, hq2.sq, h1.ok s1 _ _ ItD_zipL ⟨⟨us, hq, ru⟩, ws, hq2, ru2⟩⟩⟩
  · exact h1.bad
end
end DL
namespace DL
open PySem PySem.Spec PyProof.Rows L2
open SeqAt (shaped)
/-! ### defs with defaults -/
abbrev FunE (K : PySem.W.Frag) (x qual : Str) (st : Stmt) (dvs : List V) (f : Addr) (fd : FuncData) : Prop := FunD K x qual (defArgs st) (defBody st) (defScope st) dvs [] f fd
theorem fn_bodyD {P : Program} {w : World} {K : PySem.W.Frag} {mg : Str → Option Value} {base : Heap} {x qual : Str} {st : Stmt} {dvs : List V} {f : Addr} {fd : FuncData} {N ps : List Str} {k : Nat} {B : SM} (F : FunE K x qual st dvs f fd) (S : FnScope N ps (defScope st))
    (body : ∀ X : Cx, X.prog = P → X.w = w → X.K = K → X.mg = mg → X.base = base → CxD X N (defScope st) none k → (X.xe = fun _ _ => False) → DSs X W0 B (defBody st)) : FnOk P w K mg base CX0 (k + 1) f fd ps (spD K mg ps.length (defF N.length B)) := by
  obtain ⟨oc, od, dV, kV, doc, pm, an, cdv, ct, osl, rfl, lk, hcd, _, _⟩ := F.ex
  refine fn_of lk hcd S (fun vs H Q E h => ?_) fun A outer s H vs Q E hr h => ?_
  · obtain ⟨ι, ds, S, _, r, hl, _⟩ := h
    rw [← r.length, hl]
  · obtain ⟨ι, ds, S', s', r, hl, h⟩ := h
    have c : CxD (cxOf CX0 P w K mg base N qual (defScope st) f cdv A outer s H E).nox N (defScope st) none k := ⟨rfl, rfl, rfl, rfl, hr, S.nd, PassesOwn.never⟩
    exact ⟨_, PSs.nox (body _ rfl rfl rfl rfl rfl c rfl), ι, frame0 N.length ds, S', s', FR_start r, out_ends (W := W0) (E := fun _ _ _ => False) (Po.nox h) fun _ _ _ _ z => z⟩
/-- what the defaults are -/
def DfD (K : PySem.W.Frag) : D → Value → Prop
  | .str x, u => ∃ t, u = .str x t
  | .int i, u => ∃ t, u = .int i t
  | .ctu l, u => ∃ (a : Addr) (o : Obj) (its : Array Value) (n : Nat), u = .ref a ∧ K.lookup a = some o ∧ o.cls = .type "tuple" ∧ o.data = .seq its n ∧ its.size ≤ 1000 ∧ ∃ vs, Vals vs its.toList ∧ ∀ ι H, Rps K ι H l vs
  | _, _ => False
def DfDs (K : PySem.W.Frag) : List D → List Value → Prop
  | [], us => us = []
  | d :: r, us => ∃ u t, us = u :: t ∧ DfD K d u ∧ DfDs K r t
theorem DfD.v {K : PySem.W.Frag} {d : D} {u : Value} (h : DfD K d u) : ∃ v, RelV v u ∧ ∀ ι H, Rp K ι H d v := by
  cases d with
  | str x => exact ⟨.str x, h, fun _ _ => rfl⟩
  | int x => exact ⟨.int x, h, fun _ _ => rfl⟩
  | ctu l =>
    obtain ⟨a, o, its, n, rfl, h1, h2, h3, h4, vs, h5, h6⟩ := h
    exact ⟨.ref a, rfl, fun ι H => ⟨a, vs, rfl, .inr ⟨o, its, n, h1, h2, h3, small_line h4, h5⟩, h6 ι H⟩⟩
  | _ => exact h.elim
theorem DfDs.vs {K : PySem.W.Frag} : ∀ {ds : List D} {us : List Value}, DfDs K ds us → ∃ vs, Vals vs us ∧ ∀ ι H, Rps K ι H ds vs
  | [], _, h => by cases h; exact ⟨[], .nil, fun _ _ => rfl⟩
  | d :: r, _, h => by
    obtain ⟨u, t, rfl, h1, h2⟩ := h
    obtain ⟨v, r1, q1⟩ := h1.v
    obtain ⟨vs, r2, q2⟩ := h2.vs
    exact ⟨v :: vs, .cons r1 r2, fun ι H => ⟨v, vs, rfl, q1 ι H, q2 ι H⟩⟩
theorem DfD.ints {K : PySem.W.Frag} {l : List Int} {a : Addr} {o : Obj} {its : Array Value} {n : Nat} (h1 : K.lookup a = some o) (h2 : o.cls = .type "tuple") (h3 : o.data = .seq its n) (h4 : its.size ≤ 1000) (h5 : Vals (l.map V.int) its.toList) : DfD K (.ctu (l.map .int)) (.ref a) :=
  ⟨a, o, its, n, rfl, h1, h2, h3, h4, _, h5, fun _ _ => Rps.of_ints l⟩
theorem DfD.strs {K : PySem.W.Frag} {l : List Str} {a : Addr} {o : Obj} {its : Array Value} {n : Nat} (h1 : K.lookup a = some o) (h2 : o.cls = .type "tuple") (h3 : o.data = .seq its n) (h4 : its.size ≤ 1000) (h5 : Vals (l.map V.str) its.toList) : DfD K (.ctu (l.map .str)) (.ref a) :=
  ⟨a, o, its, n, rfl, h1, h2, h3, h4, _, h5, fun _ _ => Rps.of_strs l⟩
/-- a def with these defaults stands -/
structure FunG (K : PySem.W.Frag) (x qual : Str) (st : Stmt) (dds : List D) (f : Addr) (fd : FuncData) : Prop where
  ex : ∃ dvs, FunE K x qual st dvs f fd ∧ dvs.length = dds.length ∧ ∀ ι H, Rps K ι H dds dvs
  ne : dds ≠ []
  kp : PySem.W.keepIn K (.ref f) = true
theorem fung_mk {K : PySem.W.Frag} {x qual : Str} {st : Stmt} {dds : List D} {f T : Addr} {oc : Value} {od an : Option Addr} {osl : Array (Option Value)} {kV doc pm cdv ct : Value} {o : Obj} {its : List Value} {n : Nat}
    (l : K.lookup f = some ⟨oc, od, .func (PySem.W.fnOf x qual (defArgs st) (defBody st) (defScope st) (.ref T) kV doc pm an cdv ct), osl⟩) (c : PySem.W.codeIn K cdv qual = true) (k : PySem.W.keepIn K (.ref f) = true)
    (lT : K.lookup T = some o) (hd : o.data = .seq its.toArray n ∧ DfDs K dds its) (ne : dds ≠ []) : FunG K x qual st dds f (PySem.W.fnOf x qual (defArgs st) (defBody st) (defScope st) (.ref T) kV doc pm an cdv ct) := by
  obtain ⟨vs, hv, hr⟩ := hd.2.vs
  have hl : vs.length = dds.length := ((hr [] (fun _ => none)).length).symm
  have hn : vs ≠ [] := fun z => ne (List.length_eq_zero_iff.mp (by rw [← hl, z]; rfl))
  exact ⟨⟨vs, ⟨⟨oc, od, .ref T, kV, doc, pm, an, cdv, ct, osl, rfl, l, c, .inr ⟨hn, T, o, its, n, rfl, lT, hd.1, hv⟩, .inl rfl⟩, k⟩, hl, hr⟩, ne, k⟩
/-- it binds with the defaults behind the first j -/
theorem FunG.binds {K : PySem.W.Frag} {x qual : Str} {st : Stmt} {dds : List D} {f : Addr} {fd : FuncData} {ps : List Str} (F : FunG K x qual st dds f fd) (n j : Nat) (hn : n + (dds.length - j) = ps.length)
    (h : ∀ (T : Addr) (kV doc pm : Value) (an : Option Addr) (cdv ct : Value) (us its : List Value), us.length = n → its.length = dds.length →
      ∃ k, bindArgs (PySem.W.fnOf x qual (defArgs st) (defBody st) (defScope st) (.ref T) kV doc pm an cdv ct) ⟨us, []⟩ = seqItems? (.ref T) >>= k ∧ k (some its.toArray) = pure (ps.zip (us ++ its.drop j))) :
    ∃ dvs ds, (∀ ι H, Rps K ι H (dds.drop j) dvs) ∧ Vals dvs ds ∧ Binds K fd ps ds := by
  obtain ⟨dvs, E, hl, hr⟩ := F.ex
  have hn0 : dvs ≠ [] := fun z => F.ne (List.length_eq_zero_iff.mp (by rw [← hl, z]; rfl))
  obtain ⟨ds, hv, hb⟩ := E.binds1 n j hn0 (by rw [hl]; exact hn) (fun T kV doc pm an cdv ct us its h1 h2 => h T kV doc pm an cdv ct us its h1 (by rw [h2, hl]))
  exact ⟨dvs.drop j, ds, fun ι H => (hr ι H).drop j, hv, hb⟩
theorem FunG.body {P : Program} {w : World} {K : PySem.W.Frag} {mg : Str → Option Value} {base : Heap} {x qual : Str} {st : Stmt} {dds : List D} {f : Addr} {fd : FuncData} {N ps : List Str} {k : Nat} {B : SM} (F : FunG K x qual st dds f fd) (S : FnScope N ps (defScope st))
    (body : ∀ X : Cx, X.prog = P → X.w = w → X.K = K → X.mg = mg → X.base = base → CxD X N (defScope st) none k → (X.xe = fun _ _ => False) → DSs X W0 B (defBody st)) : FnOk P w K mg base CX0 (k + 1) f fd ps (spD K mg ps.length (defF N.length B)) := by
  obtain ⟨dvs, E, _, _⟩ := F.ex
  exact fn_bodyD E S body
/-! ### a call with keywords for the last parameters, in their order -/
structure FnK (P : Program) (w : World) (K : PySem.W.Frag) (mg : Str → Option Value) (base : Heap) (CX : CXT) (k : Nat) (x : Str) (n m : Nat) (ks : List Str) (F : List D → M D) : Prop where
  ex : ∃ (f : Addr) (fd : FuncData) (ps : List Str), mg x = some (.ref f) ∧ PySem.W.keepIn K (.ref f) = true ∧ FnOk P w K mg base CX k f fd ps (spD K mg (n + m) F) ∧ ks.length = m ∧ KBn K fd ps n ks (fun us ws => us ++ ws) (fun vs zs => vs ++ zs)
theorem FunG.kbn {K : PySem.W.Frag} {x qual : Str} {st : Stmt} {dds : List D} {f : Addr} {fd : FuncData} {ps : List Str} (F : FunG K x qual st dds f fd) (n : Nat) (ks : List Str)
    (h : ∀ (T : Addr) (kV doc pm : Value) (an : Option Addr) (cdv ct : Value) (us its ws : List Value), us.length = n → its.length = dds.length → ws.length = ks.length →
      ∃ k, bindArgs (PySem.W.fnOf x qual (defArgs st) (defBody st) (defScope st) (.ref T) kV doc pm an cdv ct) ⟨us, ks.zip ws⟩ = seqItems? (.ref T) >>= k ∧ k (some its.toArray) = pure (ps.zip (us ++ ws))) :
    KBn K fd ps n ks (fun us ws => us ++ ws) (fun vs zs => vs ++ zs) := by
  obtain ⟨dvs, E, hl, hr⟩ := F.ex
  obtain ⟨oc, od, dV, kV, doc, pm, an, cdv, ct, osl, rfl, lk, hcd, hD, hK⟩ := E.ex
  have hn0 : dvs ≠ [] := fun z => F.ne (List.length_eq_zero_iff.mp (by rw [← hl, z]; rfl))
  rcases hD with ⟨e, _⟩ | ⟨_, T, o, its, m, rfl, lT, oT, rT⟩
  · exact absurd e hn0
  · refine ⟨fun s us ws X l1 l2 => ?_, fun r1 r2 => r1.append r2⟩
    obtain ⟨k, e1, e2⟩ := h T kV doc pm an cdv ct us its ws l1 (by rw [← rT.length, hl]) l2
    refine BindsTo.of_looks fun M => ?_
    rw [e1]
    exact looks_items X lT oT (.of_pure e2)
def calK (F : List D → M D) (fs gs : List (Frame → M D)) : Frame → M D := fun fr => bnd (seqA fs fr) fun xs => bnd (seqA gs fr) fun ys => nox (F (xs ++ ys))
section
variable {X : Cx} {W : WE} {e : Expr} {es : List Expr} {pos p : Pos} {fs gs : List (Frame → M D)} {x : Str} {kws : List Keyword}
/-- the keywords' values -/
inductive DKw (X : Cx) (W : WE) : List Keyword → List (Frame → M D) → Prop where
  | nil : DKw X W [] []
  | cons {nm : Option Str} {e : Expr} {kp : Pos} {f : Frame → M D} {r : List Keyword} {gs : List (Frame → M D)} (h : DE X W f e) (t : DKw X W r gs) : DKw X W (⟨nm, e, kp⟩ :: r) (f :: gs)
theorem DKw.pk {kws : List Keyword} {gs : List (Frame → M D)} (h : DKw X W kws gs) : PK X kws (trA X.K X.mg W (seqA gs)) := by
  induction h with
  | nil => exact ⟨fun pos pins s σ H Q I ⟨ι, fr, S, h1, h2, h3⟩ => pk_nil.run pos pins s σ H Q I (h3.ok h1 _ rfl)⟩
  | cons h t ih =>
    refine ⟨fun pos pins s σ H Q I ⟨ι, fr, S, h1, h2, h3⟩ => (pk_cons h ih).run pos pins s σ H Q I ?_⟩
    refine ⟨ι, fr, S, h1, h2, (Po.bnd h3).imp (fun x S1 ι1 H1 m1 s1 q v r1 => ?_) fun _ _ _ _ _ _ z => z⟩
    exact ⟨ι1, fr, S1, s1, m1.fr h2, q.bnd.imp (fun xs S2 ι2 H2 m2 s2 q vs r2 => q.ok s2 _ ⟨v, vs, rfl, m2.rp r1, r2⟩) fun _ _ _ _ _ _ z => z⟩
theorem DE_callK {j n m : Nat} {ks : List Str} {F : List D → M D} (h : FnK X.prog X.w X.K X.mg X.base CX0 j x n m ks F) (hr : Room j X.A) (hg : Gl X x) (hn : fs.length = n) (hm : gs.length = m) (ha : DA X W (seqA fs) (e :: es)) (hk : DKw X W kws gs)
    (hall : (backToKw pos (keywordEach kws X.env)).all (·.1.isSome) = true := by rfl) (hks : (backToKw pos (keywordEach kws X.env)).filterMap (·.1) = ks := by rfl)
    (hdb : (x == ("__debug__" : Str)) = false := by decide) (he : starEach (e :: es) X.env = (false, eval e X.env) :: starEach es X.env := by rfl)
    (hpl : ((backTo pos (starEach (e :: es) X.env)).any (·.1) || (backToKw pos (keywordEach kws X.env)).any (·.1.isNone)) = false := by rfl) : DE X W (calK F fs gs) (.Call (.Name x p) (e :: es) kws pos) := by
  obtain ⟨f, fd, ps, h1, h2, h3, h4, h5⟩ := h.ex
  refine DE.of (pe_callN (E := fun _ _ _ => False) h3 hr hg h1 h2 h5 pass0 ha hk.pk hall hks hdb he hpl) fun σ H Q ι fr S s f h => ⟨ι, fr, S, s, f, h.bndE.imp (fun xs S1 ι1 H1 m1 s1 q vs r => ?_) fun _ _ _ _ _ _ z => z⟩
  obtain ⟨hq, q⟩ := q
  refine ⟨ι1, fr, S1, s1, m1.fr f, q.bndE.imp (fun ys S2 ι2 H2 m2 s2 q zs r2 => ?_) fun _ _ _ _ _ _ z => z⟩
  obtain ⟨hq2, q⟩ := q
  have l1 := seqA_len hq
  have l2 := seqA_len hq2
  refine ⟨by rw [← r.length, l1, hn], by rw [← r2.length, l2, h4, hm], ι2, xs ++ ys, S2, s2, (m2.rps r).app r2, by simp [l1, l2, hn, hm], ?_⟩
  exact (Po.nox (e' := fun x _ ι' H' => ∀ c d, XR X.K X.mg ι' H' x c d → False) q).imp (fun d _ _ _ _ _ z v r => .inl (z v r)) fun _ _ _ _ _ _ z => z
end
end DL
namespace DL
open PySem PySem.Spec PyProof.Rows L2
/-! ### empty dicts as data: made, and shown by repr -/
/-- the dict of the modules stands -/
def SysX (X : Cx) : Prop := ∃ mm, X.base.Ns sysModules mm
def empF : Frame → M D := fun _ => ret .emp
def reprE (xs : List D) : M D := fun S => match xs with
  | [d] => (match pyS S d with
    | some p => if p.showable = true ∧ p.depth ≤ 60 ∧ p.shown.length ≤ sizeLine then .ok (.str p.shown) S else .bad
    | none => .bad)
  | _ => .bad
section
variable {X : Cx} {W : WE} {pos : Pos}
theorem DE_emp : DE X W empF (.Dict [] [] pos) := DE.of pe_dnewK fun σ H Q ι fr S s f h p hp => by
  refine .inr ⟨p, _, rfl, upd_same, trivial, fun o => ?_⟩
  rw [upd_upd]
  have m : Mn ι H ι (upd H p (.frz o (.dK []))) := Mn.fresh hp
  exact h _ _ m (s.fresh hp) _ ⟨p, o, rfl, upd_same⟩
variable {pins : List (Addr × Obj)} {σ : L2.St} {H : Hp} {s : Shared} {ι : List Addr}
theorem not_sys (I : Inv X pins σ H s) (h : SysX X) {a : Addr} {o : Obj} {vs : Array Value} {n : Nat} (g : s.heap.get? a = some o) (c : o.data = .seq vs n) : sysModules ≠ a := by
  rintro rfl
  obtain ⟨mm, x⟩ := h
  obtain ⟨o', es, ep, e, d, _⟩ := x.keeps I.bk
  rw [g] at e
  cases e
  rw [c] at d
  cases d
mutual
theorem py_readsE (I : Inv X pins σ H s) (hs : SysX X) : ∀ (d : D) (v : V) (u : Value) (p : PyData), Rp X.K ι H d v → RelV v u → py d = some p → ∃ as, Reads s.heap u p as ∧ sysModules ∉ as
  | .non, v, u, p, r, ru, h => by cases r; cases ru; cases h; exact ⟨_, .none, fun h => nomatch h⟩
  | .bl b, v, u, p, r, ru, h => by cases r; cases ru; cases h; exact ⟨_, .bool b, fun h => nomatch h⟩
  | .int i, v, u, p, r, ru, h => by cases r; obtain ⟨t, rfl⟩ := ru; cases h; exact ⟨_, .int i t, fun h => nomatch h⟩
  | .str x, v, u, p, r, ru, h => by cases r; obtain ⟨t, rfl⟩ := ru; cases h; exact ⟨_, .str x t, fun h => nomatch h⟩
  | .tup l, v, u, p, r, ru, h => by
    obtain ⟨a, vs, rfl, ha, ra⟩ := r
    obtain rfl : u = Value.ref a := ru
    obtain ⟨ps, hp, rfl⟩ : ∃ ps, pys l = some ps ∧ p = .tuple ps := by
      unfold py at h
      cases q : pys l with
      | none => rw [q] at h; cases h
      | some ps => rw [q] at h; exact ⟨ps, rfl, (Option.some.inj h).symm⟩
    obtain ⟨its, rv, ⟨o, g, c, n, dd⟩, _⟩ := I.tuple (show SqT X.K H a vs from .of ha)
    obtain ⟨as, q, ns⟩ := pys_readsE I hs l vs its ps ra rv hp
    exact ⟨_, .tuple g c dd (by simpa using q), ns⟩
  | .ctu l, v, u, p, r, ru, h => by
    obtain ⟨a, vs, rfl, ha, ra⟩ := r
    obtain rfl : u = Value.ref a := ru
    obtain ⟨ps, hp, rfl⟩ : ∃ ps, pys l = some ps ∧ p = .tuple ps := by
      unfold py at h
      cases q : pys l with
      | none => rw [q] at h; cases h
      | some ps => rw [q] at h; exact ⟨ps, rfl, (Option.some.inj h).symm⟩
    obtain ⟨its, rv, ⟨o, g, c, n, dd⟩, _⟩ := I.tuple ha
    obtain ⟨as, q, ns⟩ := pys_readsE I hs l vs its ps ra rv hp
    exact ⟨_, .tuple g c dd (by simpa using q), ns⟩
  | .ptu l, v, u, p, r, ru, h => by
    obtain ⟨a, oo, vs, rfl, ha, _, ra⟩ := r
    obtain rfl : u = Value.ref a := ru
    obtain ⟨ps, hp, rfl⟩ : ∃ ps, pys l = some ps ∧ p = .tuple ps := by
      unfold py at h
      cases q : pys l with
      | none => rw [q] at h; cases h
      | some ps => rw [q] at h; exact ⟨ps, rfl, (Option.some.inj h).symm⟩
    obtain ⟨its, rv, ⟨o, g, c, n, dd⟩, _⟩ := I.tuple (show SqT X.K H a vs from .inl (.inr ⟨oo, ha⟩))
    obtain ⟨as, q, ns⟩ := pys_readsE I hs l vs its ps ra rv hp
    exact ⟨_, .tuple g c dd (by simpa using q), ns⟩
  | .lst l, v, u, p, r, ru, h => by
    obtain ⟨a, vs, rfl, ha, ra⟩ := r
    obtain rfl : u = Value.ref a := ru
    obtain ⟨ps, hp, rfl⟩ : ∃ ps, pys l = some ps ∧ p = .list ps := by
      unfold py at h
      cases q : pys l with
      | none => rw [q] at h; cases h
      | some ps => rw [q] at h; exact ⟨ps, rfl, (Option.some.inj h).symm⟩
    obtain ⟨its, rv, ⟨o, n, g, c, _, dd⟩, _⟩ := I.list ha.sq
    obtain ⟨as, q, ns⟩ := pys_readsE I hs l vs its ps ra rv hp
    refine ⟨_, .list g c dd (by simpa using q), fun hm => ?_⟩
    rcases List.mem_cons.mp hm with e | e
    · exact not_sys I hs g dd e
    · exact ns e
  | .emp, v, u, p, r, ru, h => by
    obtain ⟨a, o, rfl, ha⟩ := r
    obtain rfl : u = Value.ref a := ru
    cases h
    obtain ⟨_, _, nsy, vs, kv, ob, es, ep, g, ex, hd, _, he, _⟩ := I.hok a _ ha
    cases kv
    have z : es.toList = [] := by
      revert he
      generalize es.toList = el
      intro he
      cases he
      rfl
    refine ⟨_, .dict (n := ep) g ex.1 hd (by rw [z]; exact .nil) (by rw [z]; exact .nil), fun hm => ?_⟩
    have e : sysModules = a := by simpa using hm
    rw [← e] at nsy
    simp at nsy
  | .ob n, v, u, p, r, ru, h => by cases h
theorem pys_readsE (I : Inv X pins σ H s) (hs : SysX X) : ∀ (l : List D) (vs : List V) (us : List Value) (ps : List PyData), Rps X.K ι H l vs → Vals vs us → pys l = some ps → ∃ as, ReadsAll s.heap us ps as ∧ sysModules ∉ as
  | [], vs, us, ps, r, ru, h => by cases r; cases ru; cases h; exact ⟨_, .nil, fun h => nomatch h⟩
  | d :: ds, vs, us, ps, r, ru, h => by
    obtain ⟨v, w, rfl, r1, r2⟩ := r
    cases ru with
    | cons q1 q2 =>
      unfold pys at h
      cases e1 : py d with
      | none => rw [e1] at h; cases h
      | some p =>
        cases e2 : pys ds with
        | none => rw [e1, e2] at h; cases h
        | some qs =>
          rw [e1, e2] at h
          cases h
          obtain ⟨as, h1, n1⟩ := py_readsE I hs d v _ p r1 q1 e1
          obtain ⟨bs, h2, n2⟩ := pys_readsE I hs ds w _ qs r2 q2 e2
          exact ⟨_, .cons h1 h2, fun hm => (List.mem_append.mp hm).elim n1 n2⟩
end
theorem pyS_readsE (I : Inv X pins σ H s) (hs : SysX X) {S : Store} (hS : SR X.K X.mg ι S H) {d : D} {v : V} {u : Value} {p : PyData} (r : Rp X.K ι H d v) (ru : RelV v u) (h : pyS S d = some p) : ∃ as, Reads s.heap u p as ∧ sysModules ∉ as := by
  cases d with
  | ob n =>
    rw [pyS_ob] at h
    cases q : oLst S[n]? with
    | none => rw [q] at h; cases h
    | some l =>
      rw [q] at h
      cases e : pys l with
      | none => simp only [e, Option.bind, Option.map] at h; cases h
      | some ps =>
        simp only [e, Option.bind, Option.map] at h
        cases h
        obtain ⟨a, vs, rfl, ha, ra⟩ := lst_at (d := .ob n) hS r q
        obtain rfl : u = Value.ref a := ru
        obtain ⟨its, rv, ⟨o, m, g, c, _, dd⟩, _⟩ := I.list ha
        obtain ⟨as, w, ns⟩ := pys_readsE I hs l vs its ps ra rv e
        refine ⟨_, .list g c dd (by simpa using w), fun hm => ?_⟩
        rcases List.mem_cons.mp hm with e | e
        · exact not_sys I hs g dd e
        · exact ns e
  | _ => exact py_readsE I hs _ v u p r ru h
theorem C_reprE (hs : SysX X) (hg : X.A.guards = some []) (hu : X.A.units + 64 < cLine) : CalD X W (.builtin "repr") reprE := by
  refine CalD.base fun pins s σ H xs us Q ι S ds e I rx hS r h => ?_
  unfold reprE at h
  split at h
  · rename_i d
    obtain ⟨v, w, rfl, r1, r2⟩ := r
    cases r2
    cases rx with
    | cons ru rr =>
      cases rr
      rename_i u us'
      split at h
      · rename_i p hp
        split at h
        · rename_i ok
          obtain ⟨h1, h3, h4⟩ := ok
          obtain ⟨as, rd, ns⟩ := pyS_readsE I hs hS r1 ru hp
          have q : Q (.str p.shown) H := h.ok hS _ rfl
          have fin : ∀ t, EP X pins σ Q (.str p.shown t) { s with toks := s.toks + 1 } := fun t => ⟨.str p.shown, H, I.tok _, ⟨_, rfl⟩, q⟩
          have fin2 : ∀ (h' : Heap) u tk, (∀ b o, s.heap.get? b = some o → h'.get? b = some o) → EP X pins σ Q (.str p.shown u) { s with heap := h', toks := tk } := fun h' u tk k => ⟨.str p.shown, H, I.kept k, ⟨_, rfl⟩, q⟩
          cases rd with
          | none => exact PySem.P.repr_of_none (fin _)
          | bool b => exact PySem.P.repr_of_bool (fin _)
          | int i t => exact PySem.P.repr_of_int (by simpa [PyData.showable] using h1) (fin _)
          | str x t => exact PySem.P.repr_of_str (fin _) h4
          | list g1 g2 g3 g4 => exact repr_of_reads' (.list g1 g2 g3 g4) h1 (fun _ => ns) hg (by omega) (fun _ _ z => z) fin2 h4
          | tuple g1 g2 g3 g4 => exact repr_of_reads' (.tuple g1 g2 g3 g4) h1 (fun _ => ns) hg (by omega) (fun _ _ z => z) fin2 h4
          | dict g1 g2 g3 g4 g5 => exact repr_of_reads' (.dict g1 g2 g3 g4 g5) h1 (fun _ => ns) hg (by omega) (fun _ _ z => z) fin2 h4
        · exact h.bad
      · exact h.bad
  · exact h.bad
end
/-- what the law's run must show, from the abstract heap in which the script alone may be tracked -/
def LawRunS (P : Program) (w : World) (K : PySem.W.Frag) (mg : Str → Option Value) (fa : Addr) : Prop :=
  ∀ (base : Heap) (s : Shared) (H : Hp) (a : Addr) (ns : List Int), K.In base → base.Ns mainGlobals mg → (∃ mm, base.Ns sysModules mm) → Env0 P w K mg base callerA [] s H → Ls K H a (ns.map V.int) → ns.length ≤ 63 →
    codeAny (model P w) callerA (.call (.ref fa) ⟨[.ref a], []⟩) (CR CX0 [] P w H s (fun v _ => v = .bl true) E0) s
theorem law_runS {P : Program} {w : World} {K : PySem.W.Frag} {mg mb : Str → Option Value} {fa a : Addr} {s : Shared} {vs : List Value} {ns : List Int} (R : LawRunS P w K mg fa)
    (inK : K.In s.heap) (glob : s.heap.Ns mainGlobals mg) (sy : ∃ mm, s.heap.Ns sysModules mm) (blt : s.heap.Ns builtinsNs mb) (std : ∀ x : Str, x ≠ "__name__" → mb x = bootBuiltins x) (lim : s.heap.NoLimit) (gens : s.gens = #[])
    (obj : s.heap.get? a = some { cls := .type "list", data := .seq vs.toArray }) (isI : IntsAre vs ns) (few : ns.length ≤ 63) :
    codeAny (model P w) callerA (.call (.ref fa) ⟨[.ref a], []⟩) (fun r s' => r = .ok (.ret (.bool true)) ∧ OldK s.heap s'.heap ∧ s'.os = s.os ∧ AllBare s'.gens) s := by
  have rv : Vals (ns.map V.int) vs := vals_ints isI
  have nl := isI.length
  have line : (ns.map V.int).length ≤ sizeLine := by rw [List.length_map, sizeLine_eq]; omega
  -- one way for both: H tracks nothing but the script
  have both : ∀ H : Hp, (∀ b u, H b = some u → b = a ∧ u = .frz { cls := .type "list", data := .seq vs.toArray } (.lst (ns.map V.int)) ∧ K.lookup a = none) → Ls K H a (ns.map V.int) →
      codeAny (model P w) callerA (.call (.ref fa) ⟨[.ref a], []⟩) (fun r s' => r = .ok (.ret (.bool true)) ∧ OldK s.heap s'.heap ∧ s'.os = s.os ∧ AllBare s'.gens) s := by
    intro H only script
    have held : HOk P w H s.heap := fun b u e => by
      obtain ⟨rfl, rfl, _⟩ := only b u e
      exact ⟨obj, line, vs, _, rv, obj⟩
    have free : ∀ {b : Addr} {o : Obj}, s.heap.get? b = some o → (∀ its n, o.data ≠ .seq its n) → H b = none := fun {b o} e nd => by
      cases q : H b with
      | none => rfl
      | some u =>
        obtain ⟨rfl, _, _⟩ := only b u q
        rw [obj] at e
        cases e
        exact absurd rfl (nd _ _)
    have names : ∀ {b : Addr} {m : Str → Option Value}, s.heap.Ns b m → (hidT s.heap H).Ns b m := fun {b m} z => by
      obtain ⟨o, es, ep, e, d, rest⟩ := z
      exact ⟨o, es, ep, hidT_get e (free e fun its n z => by rw [d] at z; cases z), d, rest⟩
    have kb : K.In (hidT s.heap H) := fun b o e => hidT_get (inK b o e) <| by
      cases q : H b with
      | none => rfl
      | some u =>
        obtain ⟨rfl, _, z⟩ := only b u q
        rw [z] at e
        cases e
    obtain ⟨ml, l1, l2⟩ := lim
    have m0 : Mod K mg (hidT s.heap H) := ⟨kb, names glob, ⟨mb, names blt, std⟩, ml, names l1, l2⟩
    have none_in : ∀ b : Addr, b ∉ frs [] := fun b z => by cases z
    have e0 : Env0 P w K mg (hidT s.heap H) callerA [] s H := ⟨rfl, m0, fun b o e => of_hidT e, Nat.le_of_eq (hidT_size _ _), trivial, fun b z => absurd z (none_in b), held, .of_eq gens⟩
    refine codeAny_mono (R _ s H a ns kb (names glob) (let ⟨mm, z⟩ := sy; ⟨mm, names z⟩) e0 script few) fun r s' q => ?_
    match r, q with
    | .ok (.ret u), q =>
      obtain ⟨v, H', os, bare, un, held', ru, rfl⟩ := q
      obtain rfl : u = Value.bool true := ru
      refine ⟨rfl, OldK.of_keep fun b o e => ?_, os, bare⟩
      cases hb : H b with
      | none => exact un.keep b o e hb (none_in b) (by intro z; cases z)
      | some u =>
        obtain ⟨rfl, rfl, _⟩ := only b u hb
        have z := (held' _ _ (un.frzs _ _ _ hb)).1
        rw [obj] at e
        cases e
        exact z
    | .ok .next, q => exact q.elim
    | .ok .brk, q => exact q.elim
    | .ok .cont, q => exact q.elim
    | .error e, q => exact q.elim
  cases look : K.lookup a with
  | some o =>
    have e := inK a o look
    rw [obj] at e
    cases e
    refine both (fun _ => none) (fun b u z => by cases z) (.inr (.inr ⟨_, vs.toArray, _, look, rfl, rfl, rfl, ?_, by simpa using rv⟩))
    rw [List.size_toArray, sizeLine_eq]
    omega
  | none =>
    refine both (fun b => if b = a then some (.frz { cls := .type "list", data := .seq vs.toArray } (.lst (ns.map V.int))) else none) (fun b u z => ?_) (.inl ⟨_, if_pos rfl⟩)
    by_cases hb : b = a
    · have z' := (if_pos hb).symm.trans z
      exact ⟨hb, (Option.some.inj z').symm, look⟩
    · have z' := (if_neg hb).symm.trans z
      cases z'
theorem law_walkS {l : PySem.W.OpenLaw} {q : Program} {loose : List Str} {XP : (Str → Option Value) → Heap → Prop} {YP : World → Heap → Prop} {d : DefRec} {K : Params → PySem.W.Frag} (hi : importsNone q = true) (hn : l.most = some 63) (hdf : d.params.defaults = [])
    (hY : ∀ (w : World) (h : Heap), YP w h → (K w.params).In h)
    (F : ∀ (w : World) (mg : Str → Option Value) (fa : Addr) (h : Heap), (K w.params).In h → h.Ns mainGlobals mg → mg d.name = some (.ref fa) → LawRunS l.prog w (K w.params) mg fa) :
    PySem.W.WalkO q loose XP YP l.row.toRowW d [] (fun f vs => PySem.call f vs) :=
  Att.attach_call hn hdf fun w s₀ s₁ mg mb fa o pm cd doc a vs ns G Y ho hd hcd hmg hobj hints hlen hg =>
    law_runS (F w mg fa _ (hY w _ Y) G.T.g hmg) (hY w _ Y) G.T.g (let ⟨mm, z, _⟩ := (G.T.seer hi).mods; ⟨mm, z⟩) G.T.b G.T.builtins G.T.nolimit hg hobj hints hlen
/-- the law's body: the script is data; the frame's guards are empty -/
theorem law_ofS {P : Program} {w : World} {K : PySem.W.Frag} {mg : Str → Option Value} {f : Addr} {fd : FuncData} {st : Stmt} {N : List Str} {p : Str} {k : Nat} {B : SM} (F : Fun K "law" "law" st f fd) (hS : FnScope N [p] (defScope st)) (hb : Binds K fd [p] []) (hr : Room (k + 1) callerA)
    (body : ∀ (base : Heap) (X : Cx), K.In base → base.Ns mainGlobals mg → (∃ mm, base.Ns sysModules mm) → X.prog = P → X.w = w → X.K = K → X.mg = mg → X.base = base → CxD X N (defScope st) none k → (X.xe = fun _ _ => False) → X.A.guards = some [] → DSs X W0 B (defBody st))
    (holds : ∀ ns : List Int, ns.length ≤ 63 → ∃ S, defF N.length B [.lst (ns.map .int)] [] = .ok (.bl true) S) : LawRunS P w K mg f := by
  intro base s H a ns kb gb sy e0 script few
  obtain ⟨S, hS'⟩ := holds ns few
  refine def_run (k := k) F hS hr (vs := [.ref a]) rfl e0 ?_ (.cons rfl .nil) fun cdv => ?_
  · have := hb s [.ref a] (e0.mod.kin.keeps fun b u z => (e0.bs b u z).1) rfl
    simpa using this
  · have c : CxD (cxOf CX0 P w K mg base N "law" (defScope st) f cdv callerA [] s H E0).nox N (defScope st) none k := ⟨rfl, rfl, rfl, rfl, hr.deeper _, hS.nd, PassesOwn.never⟩
    have s0 : SR K mg [] [] H := ⟨List.nodup_nil, rfl, (by intro a z; cases z), fun n o e => by simp at e⟩
    have r0 : Rps K [] H [D.lst (ns.map .int)] [V.ref a] := ⟨_, _, rfl, ⟨a, _, rfl, script, Rps.of_ints ns⟩, rfl⟩
    refine ⟨_, body base _ kb gb sy rfl rfl rfl rfl rfl c rfl rfl, [], frame0 N.length [.lst (ns.map .int)], [], s0, FR_start r0, out_ends (N := N) (ds := [.lst (ns.map .int)]) (Q := fun v _ => v = .bl true) (W := W0) (E := fun _ _ _ => False) (Po.nox (e := fun _ _ _ _ => False) ?_) fun _ _ _ _ z => z⟩
    show Po K mg [] H (defF N.length B [.lst (ns.map .int)] []) _ _
    rw [hS']
    exact fun ι' H' m' s' v r => r
end DL
namespace DL
open PySem PySem.Spec PyProof.Rows L2
/-! ### texts and tuples some times -/
def repS (a : Str) (n : Nat) : Str := ⟨(List.replicate n a.cps).foldl (· ++ ·) #[]⟩
noncomputable def mul2D (x y : D) : M D := fun S => match x, y with
  | .str a, .int k => if 2 ≤ k ∧ k ≤ 1000 ∧ 1 ≤ a.length ∧ a.length ≤ 1000 then .ok (.str (repS a k.toNat)) S else .bad
  | .tup l, .int k => if l ≠ [] ∧ 2 ≤ k ∧ k ≤ 1000 ∧ l.length ≤ 1000 then .ok (.tup (List.replicate k.toNat l).flatten) S else .bad
  | x, y => mulD x y S
theorem foldl_len (c : Array Nat) : ∀ (n : Nat) (acc : Array Nat), ((List.replicate n c).foldl (· ++ ·) acc).size = acc.size + n * c.size
  | 0, acc => by simp
  | n + 1, acc => by
    rw [List.replicate_succ, List.foldl_cons, foldl_len c n, Array.size_append, Nat.succ_mul]
    omega
theorem repS_len (a : Str) (n : Nat) : (repS a n).length = n * a.length := by
  show ((List.replicate n a.cps).foldl (· ++ ·) #[]).size = _
  rw [foldl_len]
  simp
  rfl
theorem rps_app {K : PySem.W.Frag} {ι : List Addr} {H : Hp} : ∀ {l m : List D} {vs ws : List V}, Rps K ι H l vs → Rps K ι H m ws → Rps K ι H (l ++ m) (vs ++ ws)
  | [], _, _, _, r, r2 => by cases r; exact r2
  | _ :: _, _, _, _, r, r2 => by
    obtain ⟨v, w, rfl, r1, r3⟩ := r
    exact ⟨v, _, rfl, r1, rps_app r3 r2⟩
theorem rps_rep {K : PySem.W.Frag} {ι : List Addr} {H : Hp} {l : List D} {vs : List V} (r : Rps K ι H l vs) : ∀ n : Nat, Rps K ι H (List.replicate n l).flatten (List.replicate n vs).flatten
  | 0 => rfl
  | n + 1 => by
    rw [List.replicate_succ, List.replicate_succ, List.flatten_cons, List.flatten_cons]
    exact rps_app r (rps_rep r n)
section
variable {X : Cx} {W : WE}
theorem op_repS : OpR X (binaryOp .Mult) (fun x y H Q => ∃ (a : Str) (k : Int), x = .str a ∧ y = .int k ∧ 2 ≤ k ∧ k ≤ 1000 ∧ 1 ≤ a.length ∧ a.length ≤ 1000 ∧ Q (.str (repS a k.toNat)) H) := by
  intro pins s σ H x y v u Q I rx ry h
  obtain ⟨a, k, rfl, rfl, h1, h2, h3, h4, q⟩ := h
  obtain ⟨t, rfl⟩ := rx
  obtain ⟨t', rfl⟩ := ry
  have e1 : ¬ k < 1 := by omega
  have e2 : ¬ ((k == 1 || a.length == 0) = true) := by
    simp only [Bool.or_eq_true, beq_iff_eq]
    omega
  have len : a.length * k.toNat ≤ 1000 * 1000 := Nat.mul_le_mul h4 (by omega)
  refine PySem.P.mul_str ?_ (fun _ _ => ?_) (fun _ _ => ?_) ?_
  · rw [decide_eq_false (by omega), decide_eq_false (by omega)]
    rfl
  · have hk : (1000000 : Int) ≤ (2 ^ 63 - 1) / k := by
      refine Int.le_ediv_of_mul_le (by omega) ?_
      omega
    omega
  · unfold Builtin.Str.tooLong
    rw [sizeLine_eq]
    exact decide_eq_false (by omega)
  · rw [if_neg e1, if_neg e2]
    refine ⟨?_, ⟨.str (repS a k.toNat), H, I.tok _, ⟨_, rfl⟩, q⟩⟩
    show (repS a k.toNat).length ≤ sizeLine
    rw [repS_len, sizeLine_eq]
    have : k.toNat * a.length = a.length * k.toNat := Nat.mul_comm _ _
    omega
theorem OpD_mul2 : OpD X W (binaryOp .Mult) mul2D := by
  refine ⟨_, op_mulW.or (op_repS.or op_repT), fun ι S H σ x y v u Q s r1 r2 h => ?_⟩
  unfold mul2D at h
  split at h
  · cases r1; cases r2
    split at h
    · rename_i hj
      exact .inr (.inl ⟨_, _, rfl, rfl, hj.1, hj.2.1, hj.2.2.1, hj.2.2.2, .inl (h.ok s _ rfl)⟩)
    · exact h.bad
  · rename_i l k
    obtain ⟨a, vs, rfl, ha, ra⟩ := r1
    cases r2
    split at h
    · rename_i hj
      have hlen : vs.length = l.length := ra.length.symm
      refine .inr (.inr ⟨a, k, vs, rfl, rfl, .of ha, ?_, hj.2.1, hj.2.2.1, by omega, fun p hp => ?_⟩)
      · rintro rfl
        exact hj.1 (List.eq_nil_of_length_eq_zero hlen.symm)
      · have m : Mn ι H ι (upd H p (.tup (List.replicate k.toNat vs).flatten)) := Mn.fresh hp
        exact .inl (h _ _ m (s.fresh hp) _ ⟨p, _, rfl, upd_same, m.rps (rps_rep ra k.toNat)⟩)
    · exact h.bad
  · unfold mulD at h
    split at h
    · cases r1; cases r2
      split at h
      · rename_i hj
        exact .inl ⟨_, _, rfl, rfl, hj, .inl (h.ok s _ rfl)⟩
      · exact h.bad
    · exact h.bad
end
end DL
namespace DL
namespace EqS
open PySem PySem.SeqAt MeetsSeq
theorem dict_eq_declines_str (l : Addr) (b : Str) (u : Tok) : Meets (Builtin.«dict.__eq__» ⟨[.ref l, .str b u], []⟩) (fun _ R s => s.TypeIs (.ref l) "dict" ∧ R (.ok (.ret .notImplemented)) s) :=
  .of_wp fun prog w A R s h => by
    obtain ⟨hd, h⟩ := h
    show wpAny _ _ (Builtin.Dict.dictSlotArgs "__eq__" ⟨[.ref l, .str b u], []⟩ >>= _) _ _ s
    refine wpAny_bind ?_
    unfold Builtin.Dict.dictSlotArgs
    refine wpAny_bind (wpAny_notOrdered_dict hd ?_)
    show wpAny _ _ (pure (Value.ref l, Value.str b u)) _ _ s
    refine wpAny_pure ?_
    refine wpAny_bind (wpAny_isInstance (T := "str") (typeIs_str s b u) PySem.F.sub_str_dict ?_)
    simp only [Bool.not_false, if_true]
    wp_walk
    exact ⟨_, rfl, h⟩
theorem str_eq_declines_dict (b : Str) (u : Tok) (l : Addr) (dd : Option Addr) (es : Array DictEntry) (n : Nat) (sl : Array (Option Value)) :
    Meets (Builtin.«str.__eq__» ⟨[.str b u, .ref l], []⟩) (fun _ R s => s.heap.get? l = some { cls := .type "dict", dict := dd, data := .dict es n, slots := sl } ∧ R (.ok (.ret .notImplemented)) s) :=
  .of_wp fun prog w A R s h => by
    obtain ⟨hp, g, d, tk, os⟩ := s; obtain ⟨hl, h⟩ := h
    wp_walk using wpAny_load hl
    exact ⟨_, rfl, h⟩
section
variable {A : Around} {s : Shared}
theorem EqAt.str_dict {l : Addr} {o : Obj} {es : Array DictEntry} {n : Nat} (b : Str) (u : Tok) (ho : s.heap.get? l = some o) (hc : o.cls = .type "dict") (hd : o.data = .dict es n) (hu : A.units < cLine) : EqAt A s (.str b u) (.ref l) false := fun prog w E Q h => by
  obtain ⟨cls, dd, data, sl⟩ := o
  simp only at hc hd
  subst hc hd
  unfold eqBool
  refine wpAny_holding ?_
  refine wpAny_ite_split (fun hab => absurd (eq_of_beq hab) nofun) (fun _ => ?_)
  refine wpAny_bind (rc_eq_decline_or (k := false) (typeIs_str s b u) ⟨_, ho, rfl⟩ (by decide) F.sub_dict_str F.slot_str_eq F.slot_dict_eq_refl
    (fun _ hq => call_meets F.slot_str_eq (typeIs_str s b u) F.entry_str_eq (F.args_str_eq_2 _ _) (str_eq_declines_dict b u l dd es n sl) ⟨ho, hq⟩)
    (fun _ hq => call_meets F.slot_dict_eq_refl ⟨_, ho, rfl⟩ F.entry_dict_eq (F.args_dict_eq_2 _ _) (dict_eq_declines_str l b u) ⟨⟨_, ho, rfl⟩, hq⟩)
    (fun _ hq => wpAny_of_eq (rfl : isSame (.str b u) (.ref l) = pure false) hq) (.inr hu) (wpAny_truthy_bool h))
end
end EqS
open PySem PySem.Spec PyProof.Rows L2
open SeqAt (shaped)
/-! ### an empty dict looked for among texts -/
def txtsD : List D → Option (List Str)
  | [] => some []
  | .str a :: r => (txtsD r).map (a :: ·)
  | _ :: _ => none
theorem txtsD_rps {K : PySem.W.Frag} {ι : List Addr} {H : Hp} : ∀ {l : List D} {vs : List V} {ss : List Str}, Rps K ι H l vs → txtsD l = some ss → vs = ss.map V.str
  | [], _, _, r, h => by cases h; cases r; rfl
  | d :: l, _, ss, r, h => by
    obtain ⟨v, w, rfl, r1, r2⟩ := r
    cases d with
    | str a =>
      unfold txtsD at h
      cases e : txtsD l with
      | none => rw [e] at h; cases h
      | some s2 =>
        rw [e] at h
        cases h
        cases r1
        rw [txtsD_rps r2 e]
        rfl
    | _ => cases h
/-- a text, or a thing that is none -/
def eqS (x : D) (b : Str) : Bool := match x with
  | .str a => b == a
  | _ => false
def amongS (x : D) (ss : List Str) : Bool := ss.any (eqS x)
def noOb : D → Bool
  | .ob _ => false
  | _ => true
def strV : Value → Str
  | .str b _ => b
  | _ => Str.empty
def inE (x y : D) : M D := fun S => match (lstL S y).bind txtsD with
  | some ss => if noOb x = true then .ok (.bl (amongS x ss)) S else .bad
  | none => inD x y S
def notInE (x y : D) : M D := fun S => match (lstL S y).bind txtsD with
  | some ss => if noOb x = true then .ok (.bl (!amongS x ss)) S else .bad
  | none => notInD x y S
section
variable {X : Cx} {W : WE} {ι : List Addr} {H : Hp} {σ : L2.St} {s : Shared} {pins : List (Addr × Obj)}
theorem emp_at (I : Inv X pins σ H s) {v : V} {u : Value} (r : Rp X.K ι H .emp v) (ru : RelV v u) : ∃ a o es n, u = .ref a ∧ s.heap.get? a = some o ∧ o.cls = .type "dict" ∧ o.data = .dict es n := by
  obtain ⟨a, o, rfl, ha⟩ := r
  obtain rfl : u = Value.ref a := ru
  obtain ⟨_, _, _, vs, kv, ob, es, ep, g, ex, hd, _, he, _⟩ := I.hok a _ ha
  exact ⟨a, ob, es, ep, rfl, g, ex.1, hd⟩
theorem vals_str : ∀ {ss : List Str} {us : List Value}, Vals (ss.map V.str) us → ∀ u ∈ us, ∃ b t, u = .str b t
  | [], _, h, u, hu => by cases h; cases hu
  | a :: ss, _, h, u, hu => by
    cases h with
    | cons h1 h2 =>
      rcases List.mem_cons.mp hu with rfl | hu
      · obtain ⟨t, rfl⟩ := h1; exact ⟨a, t, rfl⟩
      · exact vals_str h2 u hu
theorem str_eq1 (I : Inv X pins σ H s) {x : D} {v : V} {u : Value} (r : Rp X.K ι H x v) (hn : noOb x = true) (ru : RelV v u) (b : Str) (t : Tok) (hu : X.A.units + 65 < cLine) : SeqAt.EqAt X.A.in1 s (.str b t) u (eqS x b) := by
  have hu1 : X.A.in1.units < cLine := show X.A.units + 1 < cLine by omega
  cases x with
  | non => cases r; cases ru; exact SeqAt.EqAt.str_none b t
  | bl k => cases r; cases ru; exact SeqAt.EqAt.str_bool b t k
  | int i => cases r; obtain ⟨t2, rfl⟩ := ru; exact SeqAt.EqAt.str_int b t i t2
  | str a => cases r; obtain ⟨t2, rfl⟩ := ru; exact SeqAt.EqAt.str_str b t a t2
  | tup l =>
    obtain ⟨a, vs, rfl, ha, ra⟩ := r
    obtain rfl : u = Value.ref a := ru
    obtain ⟨its, rv, ⟨o, g, c, n, dd⟩, _⟩ := I.tuple (show SqT X.K H a vs from .of ha)
    exact SeqAt.EqAt.str_tuple b t ⟨o, g, c, n, dd⟩ hu1
  | ctu l =>
    obtain ⟨a, vs, rfl, ha, ra⟩ := r
    obtain rfl : u = Value.ref a := ru
    obtain ⟨its, rv, ⟨o, g, c, n, dd⟩, _⟩ := I.tuple ha
    exact SeqAt.EqAt.str_tuple b t ⟨o, g, c, n, dd⟩ hu1
  | ptu l =>
    obtain ⟨a, oo, vs, rfl, ha, _, ra⟩ := r
    obtain rfl : u = Value.ref a := ru
    obtain ⟨its, rv, ⟨o, g, c, n, dd⟩, _⟩ := I.tuple (show SqT X.K H a vs from .inl (.inr ⟨oo, ha⟩))
    exact SeqAt.EqAt.str_tuple b t ⟨o, g, c, n, dd⟩ hu1
  | lst l =>
    obtain ⟨a, vs, rfl, ha, ra⟩ := r
    obtain rfl : u = Value.ref a := ru
    obtain ⟨its, rv, ⟨o, n, g, c, _, dd⟩, _⟩ := I.list ha.sq
    exact SeqAt.EqAt.str_list b t ⟨o, g, c, n, dd⟩ hu1
  | emp =>
    obtain ⟨a, o, es, n, rfl, g, hc, hd⟩ := emp_at I r ru
    exact EqS.EqAt.str_dict b t g hc hd hu1
  | ob n => cases hn
theorem str_eqs {x : D} {vs : Array Value} {ss : List Str} (I : Inv X pins σ H s) {v : V} {u : Value} (r : Rp X.K ι H x v) (hn : noOb x = true) (ru : RelV v u) (hv : Vals (ss.map V.str) vs.toList) (hu : X.A.units + 65 < cLine) : ∀ y, y ∈ vs → SeqAt.EqAt X.A.in1 s y u (eqS x (strV y)) := fun y hy => by
  obtain ⟨b, t, rfl⟩ := vals_str hv y (by simpa using hy)
  exact str_eq1 I r hn ru b t hu
theorem any_eqSL {x : D} : ∀ {ss : List Str} {us : List Value}, Vals (ss.map V.str) us → (us.any fun y => eqS x (strV y)) = amongS x ss
  | [], _, h => by cases h; rfl
  | a :: ss, _, h => by
    cases h with
    | cons h1 h2 =>
      obtain ⟨t, rfl⟩ := h1
      rw [List.any_cons, any_eqSL h2]
      rfl
theorem any_eqS {x : D} {ss : List Str} {vs : Array Value} (h : Vals (ss.map V.str) vs.toList) : (vs.any fun y => eqS x (strV y)) = amongS x ss := by
  rw [← Array.any_toList]
  exact any_eqSL h
theorem op_strI (hu : X.A.units + 65 < cLine) : OpR X (compareOp .In) (fun x y H Q => ∃ ι S dx dy l ss, SR X.K X.mg ι S H ∧ Rp X.K ι H dx x ∧ noOb dx = true ∧ Rp X.K ι H dy y ∧ lstL S dy = some l ∧ txtsD l = some ss ∧ Q (.bl (amongS dx ss)) H) := by
  rintro pins s σ H x y v u Q I rx ry ⟨ι, S, dx, dy, l, ss, hS, r1, hn, r2, q, q2, h⟩
  obtain ⟨a, vs, rfl, ha, ra⟩ := lst_at hS r2 q
  obtain rfl : u = Value.ref a := ry
  obtain ⟨its, rv, ⟨o, n, g, c, _, dd⟩, _⟩ := I.list ha
  rw [txtsD_rps ra q2] at rv
  refine SeqAt.in_listAt (fun y => eqS dx (strV y)) ⟨_, g, c, _, dd⟩ (str_eqs I r1 hn rx (ss := ss) (by simpa using rv) hu) ?_
  exact ⟨.bl _, H, I, rfl, by rw [any_eqS (by simpa using rv)]; exact h⟩
theorem OpD_inE (hu : X.A.units + 65 < cLine) : OpD X W (compareOp .In) inE := by
  obtain ⟨r, h1, h2⟩ := OpD_in (W := W) hu
  refine ⟨_, (op_strI hu).or h1, fun ι S H σ x y v u Q s r1 r2 h => ?_⟩
  unfold inE at h
  cases q : lstL S y with
  | none => simp only [q, Option.bind] at h; exact .inr (h2 ι S H σ _ _ _ _ Q s r1 r2 h)
  | some l =>
    cases q2 : txtsD l with
    | none => simp only [q, Option.bind, q2] at h; exact .inr (h2 ι S H σ _ _ _ _ Q s r1 r2 h)
    | some ss =>
      simp only [q, Option.bind, q2] at h
      split at h
      · rename_i hn
        exact .inl ⟨ι, S, x, y, l, ss, s, r1, hn, r2, q, q2, .inl (h.ok s _ rfl)⟩
      · exact h.bad
theorem op_strN (hu : X.A.units + 65 < cLine) : OpR X (compareOp .NotIn) (fun x y H Q => ∃ ι S dx dy l ss, SR X.K X.mg ι S H ∧ Rp X.K ι H dx x ∧ noOb dx = true ∧ Rp X.K ι H dy y ∧ lstL S dy = some l ∧ txtsD l = some ss ∧ Q (.bl (!amongS dx ss)) H) := by
  rintro pins s σ H x y v u Q I rx ry ⟨ι, S, dx, dy, l, ss, hS, r1, hn, r2, q, q2, h⟩
  obtain ⟨a, vs, rfl, ha, ra⟩ := lst_at hS r2 q
  obtain rfl : u = Value.ref a := ry
  obtain ⟨its, rv, ⟨o, n, g, c, _, dd⟩, _⟩ := I.list ha
  rw [txtsD_rps ra q2] at rv
  refine SeqAt.notIn_listAt (fun y => eqS dx (strV y)) ⟨_, g, c, _, dd⟩ (str_eqs I r1 hn rx (ss := ss) (by simpa using rv) hu) ?_
  exact ⟨.bl _, H, I, rfl, by rw [any_eqS (by simpa using rv)]; exact h⟩
theorem OpD_notInE (hu : X.A.units + 65 < cLine) : OpD X W (compareOp .NotIn) notInE := by
  obtain ⟨r, h1, h2⟩ := OpD_notin (W := W) hu
  refine ⟨_, (op_strN hu).or h1, fun ι S H σ x y v u Q s r1 r2 h => ?_⟩
  unfold notInE at h
  cases q : lstL S y with
  | none => simp only [q, Option.bind] at h; exact .inr (h2 ι S H σ _ _ _ _ Q s r1 r2 h)
  | some l =>
    cases q2 : txtsD l with
    | none => simp only [q, Option.bind, q2] at h; exact .inr (h2 ι S H σ _ _ _ _ Q s r1 r2 h)
    | some ss =>
      simp only [q, Option.bind, q2] at h
      split at h
      · rename_i hn
        exact .inl ⟨ι, S, x, y, l, ss, s, r1, hn, r2, q, q2, .inl (h.ok s _ rfl)⟩
      · exact h.bad
end
end DL
namespace DL
open PySem PySem.Spec PyProof.Rows L2
open SeqAt (shaped)
/-! ### the pairs of a dict with tuple keys, while it is locked -/
/-- the turns: each pair is a new tuple -/
def ItP (d : Addr) (o : Obj) (kvs : List (List Key × V)) : It where
  go := fun i H => H d = some (.frz o (.dT kvs)) ∧ i < kvs.length
  yld := fun i H x H' => ∃ T k v q, kvs[i]? = some (k, v) ∧ H q = some (.tup (k.map kV)) ∧ x = .ref T ∧ H T = none ∧ H' = upd H T (.tup [.ref q, v])
  stop := fun i H => H d = some (.frz o (.dT kvs)) ∧ kvs.length ≤ i
section
variable {X : Cx} {pins : List (Addr × Obj)} {σ : L2.St} {H : Hp} {s : Shared} {d : Addr} {o : Obj}
theorem frz_at {kvs : List (List Key × V)} (I : Inv X pins σ H s) (h : H d = some (.frz o (.dT kvs))) :
    ∃ (es : Array DictEntry) (ep : Nat), (d == sysModules) = false ∧ s.heap.get? d = some o ∧ o.ExactDict ∧ o.data = .dict es ep ∧ es.size = kvs.length ∧
      ∀ (i : Nat) (k : List Key) (v : V), kvs[i]? = some (k, v) → ∃ en q, es[i]? = some en ∧ en.key = .ref q ∧ H q = some (.tup (k.map kV)) ∧ RelV v en.val := by
  obtain ⟨e0, _, h1, xs, pr, o2, es, ep, e1, h2, h3, h4, _⟩ := I.hok d _ h
  rw [e0] at e1
  cases e1
  have hz : es.size = kvs.length := (size_of_entries h4).trans (Paired.length pr).symm
  refine ⟨es, ep, h1, e0, h2, h3, hz, fun i k v hk => ?_⟩
  obtain ⟨b, hb, rfl, q1, q2⟩ := paired_get pr hk
  have := entry_at h4 i
  rw [hb] at this
  exact ⟨_, b.2.1, this, rfl, q1, q2⟩
theorem turn_pairs {P : Program} {w : World} {K : PySem.W.Frag} {es : Array DictEntry} {ep : Nat} {kvs : List (List Key × V)} {elts : List Expr} {kk : Nat} {tp : Pos} (it : Addr) (hod : o.data = .dict es ep) :
    Turn P w K (.Tuple elts kk tp) (ItP d o kvs) [it] it (fun i h => ∃ a b, IsItemIter h it d i kvs.length ep a b) := by
  refine ⟨List.mem_singleton.mpr rfl, (fun i h st c hc => by obtain ⟨a, b, e⟩ := st; exact ⟨_, (List.mem_singleton.mp hc) ▸ e, fun v z => by cases z⟩), fun i h h' ⟨a, b, e⟩ k => ⟨a, b, k it (List.mem_singleton.mpr rfl) _ e⟩, ?_, ?_, fun A i s Q E ⟨a, b, e⟩ h => PySem.W.kcp_self e h⟩
  · intro X e1 e2 e3 hc i pins s σ H E I hf st hg
    subst e1 e2 e3
    obtain ⟨g1, g2⟩ := hg
    obtain ⟨es', ep', h1, h2, h3, h4, h5, ent⟩ := frz_at I g1
    obtain ⟨rfl, rfl⟩ := dict_ep hod h4
    obtain ⟨⟨k, v⟩, hkv⟩ : ∃ p, kvs[i]? = some p := ⟨_, List.getElem?_eq_getElem g2⟩
    obtain ⟨en, q, hen, hkey, hq, hv⟩ := ent i k v hkv
    obtain ⟨a, b, st⟩ := st
    rw [← h5] at st
    have hi : i < es'.size := by omega
    have he : es'[i] = en := by
      rw [Array.getElem?_eq_getElem hi] at hen
      exact Option.some.inj hen
    have lt : it < s.heap.objs.size := Heap.lt_size st
    refine DT.nextI st ⟨o, h2, h3, h4⟩ hi fun hp io tp sz kp => ⟨_, rfl, wpAny_letOwnedTupleGo_items (s := { s with heap := hp }) io fun hq2 ii sb => ?_⟩
    rw [he] at tp io ii
    have t2 := (sb.2 s.heap.objs.size (Nat.ne_of_gt lt)).trans tp
    have nw : ObjOk X.prog X.w (upd H s.heap.objs.size (.tup [.ref q, v])) hq2 s.heap.objs.size (.tup [.ref q, v]) := ⟨small_line (show 2 ≤ 1000 by decide), [en.key, en.val], .cons (by rw [hkey]; exact rfl) (.cons hv .nil), _, t2, rfl, _, rfl⟩
    have I2 := I.turnedNew (t' := s.toks) (ch := [it]) (fun c ob hc e => (sb.2 c (fun z => hc (z ▸ List.mem_singleton.mpr rfl))).trans (kp c ob (fun z => hc (z ▸ List.mem_singleton.mpr rfl)) e)) hf (Nat.le_refl _) nw
    refine ⟨.ref s.heap.objs.size, _, I2, rfl, ⟨_, k, v, q, hkv, hq, rfl, I.hok.fresh (Nat.le_refl _), rfl⟩, ⟨_, _, h5 ▸ ii⟩, fun c hc => ?_⟩
    rw [List.mem_singleton.mp hc, upd_ne (Nat.ne_of_lt lt)]
    exact (hf it (List.mem_singleton.mpr rfl)).1
  · intro X e1 e2 e3 hc i pins s σ H E I hf st hg
    subst e1 e2 e3
    obtain ⟨g1, g2⟩ := hg
    obtain ⟨f0, f1, f2, f3, f4, f5⟩ := hf it (List.mem_singleton.mpr rfl)
    obtain ⟨es', ep', h1, h2, h3, h4, h5, ent⟩ := frz_at I g1
    obtain ⟨rfl, rfl⟩ := dict_ep hod h4
    obtain ⟨a, b, st⟩ := st
    rw [← h5] at st
    exact DT.endI (I.ok.hd hc) st ⟨o, h2, h3, h4⟩ (by omega) fun hp eb => ⟨rfl, I.turned (t' := s.toks) (fun c ob hb e => eb c ob hb e) f0 f1 f3 f4 f5⟩
end
/-- for .. in e.items(), tuple keys -/
def iPairs (td : TE) : TI := fun σ H R => td σ H fun x H1 => ∃ d o kvs, x = .ref d ∧ H1 d = some (.frz o (.dT kvs)) ∧ R (ItP d o kvs) H1
theorem pi_pairs {X : Cx} {e : Expr} {td : TE} {ap cp : Pos} {elts : List Expr} {kk : Nat} {tp : Pos} (he : PE X e td) (hb : attributeBase e "items" X.env (eval e X.env) = eval e X.env := by rfl) (hl : (ap.endLine == cp.line) = true := by rfl) :
    PI X (.Tuple elts kk tp) (.Call (.Attribute e "items" ap) [] [] cp) (iPairs td) := by
  refine ⟨fun pins s σ H R I h => wpAny_Call_method (T := "dict") (id := "dict.items") hb rfl hl F.plainAttrs_dict F.slot_dict_items F.type_dict_items (thn (he.run pins s σ H _ I h) fun u s1 ⟨x, H1, I1, rx, d, o, kvs, ex, hd, q⟩ => ?_)⟩
  subst ex
  obtain rfl : u = Value.ref d := rx
  obtain ⟨es, ep, h1, h2, h3, h4, h5, ent⟩ := frz_at I1 hd
  have raw : DT.Raw s1.heap d es ep := ⟨o, h2, h3, h4⟩
  refine ⟨raw.typeIs, fun a z => by cases z; exact ⟨o, h2, h3.2.1⟩, ?_⟩
  have I2 : Inv X pins σ H1 { s1 with heap := s1.heap.push { cls := .type "dict_items", data := .fields #[.ref d] } } := I1.kept (t' := s1.toks) fun b ob z => Heap.get?_push_of_some _ z
  have fin : wpAny (model X.prog X.w) X.A (pyIter (.ref s1.heap.objs.size)) (PIE X pins σ (.Tuple elts kk tp) R) X.xe { s1 with heap := s1.heap.push { cls := .type "dict_items", data := .fields #[.ref d] } } := by
    refine DT.iterI (d := d) ⟨_, Heap.get?_push_size _ rfl, rfl, rfl⟩ (raw.push _) (pi_one (tk := s1.toks) I2 _ (turn_pairs _ h4) ⟨.none, .none, ?_⟩ q)
    rw [← h5]
    exact Heap.get?_push_size _ rfl
  show wpAny _ _ (callWith cp (.builtin "dict.items") [.ref d] [] []) _ X.xe s1
  exact method_meetsIn F.slot_dict_items F.entry_dict_items rfl (PySem.evalArgs_none ⟨rfl, raw.typeIs, F.args_dict_items_1 _, _, DT.meetsItems (es := es) (ep := ep) h1, raw, fin⟩)
end DL
namespace DL
open PySem PySem.Spec PyProof.Rows L2
open SeqAt (shaped)
/-! ### comprehensions over the pairs of a dict, which stays frozen from then on -/
section
variable {X : Cx} {elt tg iter : Expr} {ifs : List Expr} {scope : Scope} {pos : Pos} {own : List (Str × Nat)} {fi : Frame → M Src} {g : D → Frame → M Frame} {ft : Frame → M Bool} {fe : Frame → M D} {ts : List Nat}
theorem lc_at {wi : TI} {W : WE} {σ : L2.St} {H : Hp} {ι : List Addr} {fr : Frame} {S : Store} {vs : List Nat} {Q : VK} {k : List D → Store → List Addr → Hp → Prop}
    (h2 : ∀ R : It → Hp → Prop, Po X.K X.mg ι H (fi fr S) (fun src _ ι' H' => ∀ J A, ItD X.K X.mg J A src → A ι' H' → R J H') (kX X.K X.mg W σ) → wi σ H R)
    (hts : ∀ i ∈ ts, i ∈ vs) (s : SR X.K X.mg ι S H) (f : FR X.K ι fr σ H) (h : Po X.K X.mg ι H (cmpF vs fi g ft fe fr S) k (kX X.K X.mg W σ))
    (hk : ∀ l S' ι0 H0 ι' H' p vv, Mn ι H ι0 H0 → Mn ι0 H0 ι' H' → H0 p = none → (∀ ι2 H2, Mn ι0 H0 ι2 H2 → SR X.K X.mg ι2 S' H2 → k l S' ι2 H2) → SR X.K X.mg ι' S' H' → H' p = some (.lst vv) → p ∉ ι' → Rps X.K ι' H' l vv → Q (.ref p) H') :
    tLc wi (trG X.K X.mg ts g) (trT X.K X.mg W0 ft) (trE X.K X.mg W0 fe) vs σ H Q := by
  refine h2 _ (h.bnd.imp (fun src S1 ι1 H1 m1 s1 q J A T a L hL => ?_) fun _ _ _ _ _ _ z => z)
  cases hx : src S1 with
  | none => rw [hx] at q; exact q.elim
  | some xs =>
    simp only [hx] at q
    split at q
    · rename_i hlen
      have q' : Po X.K X.mg ι1 H1 (cmpL src xs g ft fe (wipeF fr vs) xs S1) k (fun _ _ _ _ => False) := by
        unfold nox at q
        cases e : cmpL src xs g ft fe (wipeF fr vs) xs S1 with
        | ok l S2 => rw [e] at q; exact q
        | err x S2 => rw [e] at q; exact q.elim
        | bad => rw [e] at q; exact q
      have hLi : L ∉ ι1 := fun z => (s1.occ L z).1 hL
      refine ⟨fun i m H => m = xs.length - i ∧ ∃ ι2 S2 acc vv, Mn ι1 H1 ι2 H ∧ A ι2 H ∧ SR X.K X.mg ι2 S2 H ∧ FR X.K ι2 (wipeF fr vs) (wipe σ vs) H ∧ H L = some (.lst vv) ∧ L ∉ ι2 ∧ Rps X.K ι2 H acc vv ∧ vv.length ≤ i ∧
        Po X.K X.mg ι1 H1 (cmpL src xs g ft fe (wipeF fr vs) (xs.drop i) S2) (fun ys => k (acc ++ ys)) (fun _ _ _ _ => False), ⟨_, rfl, ι1, S1, [], [], ?_⟩, ?_⟩
      · have mf : Mn ι1 H1 ι1 (upd H1 L (.lst [])) := Mn.fresh hL
        exact ⟨mf, T.mono _ _ _ _ mf.w a, s1.fresh hL, wipe_FR ((m1.trans mf).fr f) vs, upd_same, hLi, rfl, Nat.le_refl _, by simpa using q'⟩
      · rintro i m H2 ⟨rfl, ι2, S2, acc, vv, m2, a2, s2, f2, hD, hDi, ra, hvl, q2⟩
        by_cases hi : i < xs.length
        · rw [List.drop_eq_getElem_cons hi] at q2
          unfold cmpL at q2
          split at q2
          · rename_i hsrc
            have hxi : xs[i]? = some xs[i] := List.getElem?_eq_getElem hi
            refine .inr ⟨T.go ι2 S2 H2 xs i _ s2 a2 hsrc hxi, fun H3 => ∃ ι3 S3 acc vv, Mn ι1 H1 ι3 H3 ∧ A ι3 H3 ∧ SR X.K X.mg ι3 S3 H3 ∧ FR X.K ι3 (wipeF fr vs) (wipe σ vs) H3 ∧ H3 L = some (.lst vv) ∧ L ∉ ι3 ∧ Rps X.K ι3 H3 acc vv ∧ vv.length ≤ i + 1 ∧
              Po X.K X.mg ι1 H1 (cmpL src xs g ft fe (wipeF fr vs) (xs.drop (i + 1)) S3) (fun ys => k (acc ++ ys)) (fun _ _ _ _ => False), fun H3 w => ⟨_, by omega, rfl, w⟩, fun x H3 hy => ?_⟩
            obtain ⟨m3, s3, r3⟩ := T.yld ι2 S2 H2 xs i _ x H3 s2 a2 hsrc hxi hy
            have hD3 := m3.kept L _ hD hDi
            have stay : ∀ {ι' H'}, Mn ι2 H3 ι' H' → H' L = some (.lst vv) ∧ L ∉ ι' := fun {ι' H'} m => by
              refine ⟨m.kept L _ hD3 hDi, fun z => ?_⟩
              obtain ⟨t, rfl, ht⟩ := m.pre
              rcases List.mem_append.mp z with z | z
              · exact hDi z
              · have := ht L z; rw [hD3] at this; cases this
            cases eg : g xs[i] (wipeF fr vs) S2 with
            | err x S4 => rw [eg] at q2; exact q2.elim
            | bad => rw [eg] at q2; exact q2.elim
            | ok fr4 S4 =>
              rw [eg] at q2
              refine ⟨ι2, wipeF fr vs, S2, _, s3, m3.fr f2, r3, ?_⟩
              rw [eg]
              intro ι4 H4 m4 s4 σ4 f4 t4
              refine ⟨(wipe_same t4 hts).trans (wipe_wipe vs), ι4, fr4, S4, s4, f4, ?_⟩
              simp only at q2
              cases et : ft fr4 S4 with
              | err x S5 => simp only [et] at q2; exact q2.elim
              | bad => simp only [et] at q2; exact q2.elim
              | ok b S5 =>
                simp only [et] at q2
                intro ι5 H5 m5 s5
                cases b with
                | false =>
                  refine (if_neg Bool.false_ne_true).mpr ?_
                  have mm := m4.trans m5
                  obtain ⟨h5, n5⟩ := stay mm
                  exact ⟨ι5, S5, acc, vv, m2.trans (m3.trans mm), T.mono _ _ _ _ (m3.trans mm).w a2, s5, (m3.trans mm).fr f2, h5, n5, (m3.trans mm).rps ra, by omega, q2⟩
                | true =>
                  refine (if_pos rfl).mpr ⟨ι5, fr4, S5, s5, m5.fr f4, ?_⟩
                  simp only at q2
                  cases ee : fe fr4 S5 with
                  | err x S6 => simp only [ee] at q2; exact q2.elim
                  | bad => simp only [ee] at q2; exact q2.elim
                  | ok y S6 =>
                    simp only [ee] at q2
                    intro ι6 H6 m6 s6 v6 r6
                    have mm := m3.trans (m4.trans (m5.trans m6))
                    obtain ⟨h6, n6⟩ := stay (m4.trans (m5.trans m6))
                    have mw : Mw ι6 H6 ι6 (upd H6 L (.lst (vv ++ [v6]))) := Mw.other h6 (by intro _ z; cases z) (by intro _ _ z; cases z)
                    refine ⟨vv, h6, by omega, ι6, S6, acc ++ [y], vv ++ [v6], (m2.trans mm).other hL, T.mono _ _ _ _ mw (T.mono _ _ _ _ mm.w a2), s6.other h6 (by intro _ z; cases z) (by intro _ _ z; cases z) n6, mw.fr (mm.fr f2), upd_same, n6,
                      mw.rps ((mm.rps ra).app ⟨v6, [], rfl, r6, rfl⟩), by simp; omega, ?_⟩
                    unfold bnd at q2
                    cases ec : cmpL src xs g ft fe (wipeF fr vs) (xs.drop (i + 1)) S6 with
                    | ok ys S7 =>
                      simp only [ec] at q2
                      intro ι7 H7 m7 s7
                      have := (q2 ι7 H7 m7 s7)
                      simpa using this
                    | err x S7 => simp only [ec] at q2; exact q2
                    | bad => simp only [ec] at q2; exact q2
          · exact q2.elim
        · rw [List.drop_eq_nil_of_le (by omega)] at q2
          unfold cmpL at q2
          split at q2
          · rename_i hsrc
            refine .inl ⟨T.stop ι2 S2 H2 xs i s2 a2 hsrc (by omega), hk acc S2 ι1 H1 ι2 H2 L vv m1 m2 hL (fun ι3 H3 m3 s3 => ?_) s2 hD hDi ra⟩
            have := q2 ι3 H3 m3 s3
            simpa using this
          · exact q2.elim
    · exact q.elim
end
def tFrz (t : TE) : TE := fun σ H Q => ∃ d u, H d = some u ∧ Mut (some u) ∧ ∀ od, t σ (upd H d (.frz od u)) Q
theorem pe_freeze {X : Cx} {e : Expr} {t : TE} (h : PE X e t) : PE X e (tFrz t) := by
  refine ⟨fun pins s σ H Q I ⟨d, u, hd, mu, hw⟩ => ?_⟩
  obtain ⟨od, I1⟩ := I.lock hd mu
  exact h.run pins s σ _ _ I1 (hw od)
def kD : Key → D
  | .inl i => .int i
  | .inr s => .str s
def itemsT (l : List (List Key × D)) : List D := l.map fun kv => .tup [.tup (kv.1.map kD), kv.2]
def itemsK (l : List (Key × D)) : List D := l.map fun kv => .tup [kD kv.1, kv.2]
def itmO : O → Option (List D)
  | .dt l => some (itemsT l)
  | .dk l => some (itemsK l)
  | _ => none
def oItm : Option (Option O) → Option (List D)
  | some (some o) => itmO o
  | _ => none
noncomputable def cmpI (vs : List Nat) (i : Nat) (g : D → Frame → M Frame) (t : Frame → M Bool) (elt : Frame → M D) : Frame → M D := fun fr S => match fr[i]? with
  | some (some (.ob n)) => (match oItm S[n]? with
    | some xs => bnd (cmpF vs (fun _ => ret fun _ => some xs) g t elt fr) (fun l => ret (.lst l)) (S.set n none)
    | none => .bad)
  | _ => .bad
section
variable {X : Cx} {K : PySem.W.Frag} {mg : Str → Option Value} {ι : List Addr} {H : Hp}
theorem kD_rp {k : Key} : Rp K ι H (kD k) (kV k) := by cases k <;> rfl
theorem kDs_rps : ∀ {ks : List Key}, Rps K ι H (ks.map kD) (ks.map kV)
  | [] => rfl
  | _ :: _ => ⟨_, _, rfl, kD_rp, kDs_rps⟩
theorem Rkv.at {κ : Type} : ∀ {l : List (κ × D)} {vs : List (κ × V)} {i : Nat} {k : κ} {d : D}, Rkv K ι H l vs → l[i]? = some (k, d) → ∃ v, vs[i]? = some (k, v) ∧ Rp K ι H d v
  | [], _, _, _, _, _, e => by simp at e
  | (k', d') :: l, _, 0, k, d, h, e => by
    obtain ⟨v, r, rfl, h1, h2⟩ := h
    simp at e
    obtain ⟨rfl, rfl⟩ := e
    exact ⟨v, rfl, h1⟩
  | (k', d') :: l, _, i + 1, k, d, h, e => by
    obtain ⟨v, r, rfl, h1, h2⟩ := h
    obtain ⟨w, e1, r1⟩ := Rkv.at (i := i) h2 (by simpa using e)
    exact ⟨w, by simpa using e1, r1⟩
theorem ItD_T {d : Addr} {o : Obj} {l : List (List Key × D)} {kvs : List (List Key × V)} : ItD X.K X.mg (ItP d o kvs) (fun ι H => H d = some (.frz o (.dT kvs)) ∧ Rkv X.K ι H l kvs) (fun _ => some (itemsT l)) := by
  refine ⟨fun ι H ι' H' m ⟨a, b⟩ => ⟨m.frzs _ _ _ a, m.rkv b⟩, fun ι S H xs i s ⟨a, b⟩ h hl => ?_, fun ι S H xs i x s ⟨a, b⟩ h hx => ?_, fun ι S H xs i x v H' s ⟨a, b⟩ h hx hy => ?_⟩
  all_goals cases h
  · exact ⟨a, by rw [← b.length]; simpa [itemsT] using hl⟩
  · exact ⟨a, by rw [← b.length]; simpa [itemsT] using (List.getElem?_eq_some_iff.mp hx).1⟩
  · obtain ⟨T, k, w, q, h1, h2, rfl, hT, rfl⟩ := hy
    unfold itemsT at hx
    rw [List.getElem?_map] at hx
    cases e : l[i]? with
    | none => rw [e] at hx; cases hx
    | some kv =>
      rw [e] at hx
      obtain ⟨k2, dd⟩ := kv
      cases hx
      obtain ⟨w2, e2, rw2⟩ := b.at e
      rw [h1] at e2
      cases e2
      exact pair2_new s hT ⟨q, _, rfl, h2, kDs_rps⟩ rw2
theorem ItD_K {d : Addr} {o : Obj} {l : List (Key × D)} {kvs : List (Key × V)} : ItD X.K X.mg (Iti d o kvs) (fun ι H => H d = some (.frz o (.dK kvs)) ∧ Rkv X.K ι H l kvs) (fun _ => some (itemsK l)) := by
  refine ⟨fun ι H ι' H' m ⟨a, b⟩ => ⟨m.frzs _ _ _ a, m.rkv b⟩, fun ι S H xs i s ⟨a, b⟩ h hl => ?_, fun ι S H xs i x s ⟨a, b⟩ h hx => ?_, fun ι S H xs i x v H' s ⟨a, b⟩ h hx hy => ?_⟩
  all_goals cases h
  · exact ⟨a, by rw [← b.length]; simpa [itemsK] using hl⟩
  · exact ⟨a, by rw [← b.length]; simpa [itemsK] using (List.getElem?_eq_some_iff.mp hx).1⟩
  · obtain ⟨T, k, w, h1, rfl, hT, rfl⟩ := hy
    unfold itemsK at hx
    rw [List.getElem?_map] at hx
    cases e : l[i]? with
    | none => rw [e] at hx; cases hx
    | some kv =>
      rw [e] at hx
      obtain ⟨k2, dd⟩ := kv
      cases hx
      obtain ⟨w2, e2, rw2⟩ := b.at e
      rw [h1] at e2
      cases e2
      exact pair2_new s hT kD_rp rw2
end
section
variable {X : Cx} {elt : Expr} {ifs : List Expr} {scope : Scope} {pos ap cp p tp : Pos} {own : List (Str × Nat)} {g : D → Frame → M Frame} {ft : Frame → M Bool} {fe : Frame → M D} {ts : List Nat} {x : Str} {i : Nat} {elts : List Expr} {kk : Nat}
theorem DE_cmpI {W : WE} (hc : X.calm = true) (hN : X.N.Nodup) (hn : PE X (.Name x p) (tVar i)) (hb : attributeBase (.Name x p) "items" X.env (eval (.Name x p) X.env) = eval (.Name x p) X.env) (hl : (ap.endLine == cp.line) = true)
    (ok : BlkOk X.N X.env.scope scope own) (hts : ∀ i ∈ ts, i ∈ own.map (·.2)) (B : Blk X scope ts g ft fe (.Tuple elts kk tp) ifs elt) (hs : ∀ z, foldedSetIterable (.Call (.Attribute (.Name x p) "items" ap) [] [] cp) X.env z = pure z := by intro _; rfl) :
    DE X W (cmpI (own.map (·.2)) i g ft fe) (.ListComp elt [⟨.Tuple elts kk tp, .Call (.Attribute (.Name x p) "items" ap) [] [] cp, ifs, 0⟩] scope pos) := by
  have pi : PI X (.Tuple elts kk tp) (.Call (.Attribute (.Name x p) "items" ap) [] [] cp) (fun σ H R => iItems (tVar i) σ H R ∨ iPairs (tVar i) σ H R) :=
    ⟨fun pins s σ H R I h => h.elim (fun h => (pi_items hn hb hl).run pins s σ H R I h) fun h => (pi_pairs hn hb hl).run pins s σ H R I h⟩
  refine DE.of (pe_freeze (pe_lc (g := trG X.K X.mg ts g) (tt := trT X.K X.mg W0 ft) (te := trE X.K X.mg W0 fe) hc hN pi ok B.tgt B.tst B.elt hs)) fun σ H Q ι fr S s f h => ?_
  unfold cmpI at h
  split at h
  · rename_i n hfr
    obtain ⟨v, hv, d, rfl, hix⟩ := f.2 i _ hfr
    split at h
    · rename_i xs hxs
      cases hS : S[n]? with
      | none => rw [hS] at hxs; cases hxs
      | some oo =>
        rw [hS] at hxs
        cases oo with
        | none => cases hxs
        | some o =>
          obtain ⟨d', e1, r⟩ := s.obj n o hS
          rw [hix] at e1
          cases e1
          obtain ⟨u, hu, mu, J, A, hd, T, ha⟩ : ∃ u, H d = some u ∧ Mut (some u) ∧ ∃ (J : Obj → It) (A : Obj → List Addr → Hp → Prop), (∀ od H' R, H' d = some (.frz od u) → R (J od) H' → iItems (tVar i) σ H' R ∨ iPairs (tVar i) σ H' R) ∧
              (∀ od, ItD X.K X.mg (J od) (A od) (fun _ => some xs)) ∧ ∀ od ι' H', Mn ι H ι' H' → H' d = some (.frz od u) → A od ι' H' := by
            cases o with
            | lst l => cases hxs
            | ins c fs => cases hxs
            | dt l =>
              cases hxs
              obtain ⟨kvs, h1, h2⟩ := r
              exact ⟨_, h1, trivial, fun od => ItP d od kvs, _, fun od H' R e q => .inr ⟨_, hv, d, od, kvs, rfl, e, q⟩, fun od => ItD_T, fun od ι' H' m e => ⟨e, m.rkv h2⟩⟩
            | dk l =>
              cases hxs
              obtain ⟨kvs, h1, h2⟩ := r
              exact ⟨_, h1, trivial, fun od => Iti d od kvs, _, fun od H' R e q => .inl ⟨_, hv, d, od, kvs, rfl, e, q⟩, fun od => ItD_K, fun od ι' H' m e => ⟨e, m.rkv h2⟩⟩
          refine ⟨d, u, hu, mu, fun od => ?_⟩
          have m1 : Mn ι H ι (upd H d (.frz od u)) := Mn.write s hix hS
          have s1 : SR X.K X.mg ι (S.set n none) (upd H d (.frz od u)) := s.write hix hS (by intro _ z; cases z) (by intro _ z; cases z)
          refine lc_at (fi := fun _ => ret fun _ => some xs) (fun R q => ?_) hts s1 (m1.fr f) (Po.from m1 h.bnd) fun l S' ι0 H0 ι' H' p vv _ m hp k s' hl hn r => ?_
          · exact hd od _ R upd_same (q.ok s1 _ _ (T od) (ha od _ _ m1 upd_same))
          · refine .inr ⟨p, _, rfl, hl, trivial, fun o => ?_⟩
            have mw : Mw ι' H' ι' (upd H' p (.frz o (.lst vv))) := Mw.other hl (by intro _ z; cases z) (by intro _ _ z; cases z)
            have s2 : SR X.K X.mg ι' S' (upd H' p (.frz o (.lst vv))) := s'.other hl (by intro _ z; cases z) (by intro _ _ z; cases z) hn
            exact (k ι' _ (m.other hp) s2).ok s2 _ ⟨p, vv, rfl, .inl ⟨o, upd_same⟩, mw.rps r⟩
    · exact h.bad
  · exact h.bad
end
end DL
namespace DL
open PySem PySem.Spec PyProof.Rows L2
open SeqAt (shaped)
/-! ### dict(pairs), tuple keys that are all unlike; d.get(k, x) -/
def pairT : D → Option (List Key × D)
  | .tup [.tup ks, v] => (keysL ks).map fun k => (k, v)
  | _ => none
def pairsT : List D → Option (List (List Key × D))
  | [] => some []
  | x :: r => match pairT x, pairsT r with
    | some p, some ps => some (p :: ps)
    | _, _ => none
def dictD (xs : List D) : M D := fun S => match xs with
  | [.ptu l] => (match pairsT l with
    | some ps => if (ps.map (·.1)).Nodup ∧ ps.length ≤ 1000000 then newO (.dt ps) S else .bad
    | none => .bad)
  | _ => .bad
theorem pairT_of {x : D} {k : List Key} {v : D} (h : pairT x = some (k, v)) : ∃ ks, x = .tup [.tup ks, v] ∧ keysL ks = some k := by
  unfold pairT at h
  split at h
  · rename_i ks w
    cases e : keysL ks with
    | none => rw [e] at h; cases h
    | some k2 => rw [e] at h; cases h; exact ⟨ks, rfl, e⟩
  · cases h
theorem pairsT_cons {x : D} {r : List D} {ps : List (List Key × D)} (h : pairsT (x :: r) = some ps) : ∃ p qs, ps = p :: qs ∧ pairT x = some p ∧ pairsT r = some qs := by
  unfold pairsT at h
  cases e1 : pairT x with
  | none => rw [e1] at h; cases h
  | some p =>
    cases e2 : pairsT r with
    | none => rw [e1, e2] at h; cases h
    | some qs => rw [e1, e2] at h; cases h; exact ⟨p, qs, rfl, rfl, rfl⟩
theorem stored_new {κ : Type} [DecidableEq κ] : ∀ (ps acc : List (κ × Addr × Value)), ((acc ++ ps).map (·.1)).Nodup → storedAllH acc ps = acc ++ ps
  | [], acc, _ => by simp [storedAllH]
  | p :: r, acc, h => by
    have hp : atKey acc p.1 = none := by
      unfold atKey
      rw [Option.map_eq_none_iff, List.find?_eq_none]
      intro x hx
      rw [List.map_append, List.nodup_append] at h
      have := h.2.2 x.1 (List.mem_map.mpr ⟨x, hx, rfl⟩) p.1 (by simp)
      simpa using this
    show storedAllH (storedH acc p.1 p.2.1 p.2.2) r = _
    rw [storedH_new hp, stored_new r (acc ++ [p]) (by simpa using h)]
    simp
section
variable {X : Cx} {pins : List (Addr × Obj)} {σ : L2.St} {H : Hp} {s : Shared} {ι : List Addr}
/-- the pairs of a list of pairs, as the heap has them -/
theorem rows_at (I : Inv X pins σ H s) : ∀ {l : List D} {vs : List V} {us : List Value} {ps : List (List Key × D)}, Rps X.K ι H l vs → Vals vs us → pairsT l = some ps →
    ∃ (kvs : List (List Key × V)) (rs : List (List Key × Addr × Value)) (ts : List Addr), Rkv X.K ι H ps kvs ∧ KT H kvs rs ∧ us = ts.map Value.ref ∧ ts.length = rs.length ∧
      ∀ (j : Nat) (x : List Key × Addr × Value), rs[j]? = some x → ∃ T, ts[j]? = some T ∧ s.heap.IsTuple T #[.ref x.2.1, x.2.2] ∧ H x.2.1 = some (.tup (x.1.map kV))
  | [], _, _, _, r, rv, h => by
    cases r; cases rv; cases h
    exact ⟨[], [], [], rfl, .nil, rfl, rfl, fun j x e => by simp at e⟩
  | d :: l, _, _, ps, r, rv, h => by
    obtain ⟨⟨k, v⟩, qs, rfl, e1, e2⟩ := pairsT_cons h
    obtain ⟨ks, rfl, ek⟩ := pairT_of e1
    obtain ⟨_, w, rfl, r1, r2⟩ := r
    obtain ⟨T, _, rfl, hT, _, _, rfl, ⟨q, kk, rfl, hq, rk⟩, z, _, rfl, rz, rfl⟩ := r1
    cases rv with
    | cons u1 u2 =>
      obtain rfl := u1
      obtain ⟨kvs, rs, ts, g1, g2, rfl, g4, g5⟩ := rows_at I r2 u2 e2
      obtain ⟨its, rvs, it, _⟩ := I.tuple (show SqT X.K H T _ from .of hT)
      obtain ⟨a, b, rfl, ra, rb⟩ := vals2 rvs
      obtain rfl : a = Value.ref q := ra
      have hk := keysL_rps rk ek
      subst hk
      refine ⟨(k, z) :: kvs, (k, q, b) :: rs, T :: ts, ⟨z, kvs, rfl, rz, g1⟩, .cons ⟨rfl, hq, rb⟩ g2, rfl, by simp [g4], fun j x e => ?_⟩
      cases j with
      | zero => simp at e; subst e; exact ⟨T, rfl, it, hq⟩
      | succ j => obtain ⟨T', h1, h2⟩ := g5 j x (by simpa using e); exact ⟨T', by simpa using h1, h2⟩
theorem kt_keys : ∀ {kvs : List (List Key × V)} {rs : List (List Key × Addr × Value)}, KT H kvs rs → rs.map (·.1) = kvs.map (·.1)
  | _, _, .nil => rfl
  | _, _, .cons h t => by rw [List.map_cons, List.map_cons, kt_keys t, h.1]
theorem rkv_keys {K : PySem.W.Frag} {κ : Type} : ∀ {l : List (κ × D)} {vs : List (κ × V)}, Rkv K ι H l vs → vs.map (·.1) = l.map (·.1)
  | [], _, h => by cases h; rfl
  | (k, d) :: r, _, h => by
    obtain ⟨v, w, rfl, _, h2⟩ := h
    rw [List.map_cons, List.map_cons, rkv_keys h2]
theorem kt_at {H H' : Hp} (k : ∀ a xs, H a = some (.tup xs) → H' a = some (.tup xs)) : ∀ {kvs : List (List Key × V)} {rs : List (List Key × Addr × Value)}, KT H kvs rs → KT H' kvs rs
  | _, _, .nil => .nil
  | _, _, .cons h t => .cons ⟨h.1, k _ _ h.2.1, h.2.2⟩ (kt_at k t)
theorem C_dict (hc : X.calm = true) (hu : X.A.units + 64 < cLine) : CalD X W (.type "dict") dictD := by
  refine CalD.base fun pins s σ H xs us Q ι S ds e I rx hS r h => ?_
  unfold dictD at h
  split at h
  · rename_i l
    split at h
    · rename_i ps hp
      split at h
      · rename_i hn
        obtain ⟨_, _, rfl, ⟨a, oo, vs, rfl, ha, hdn, rl⟩, rfl⟩ := r
        obtain ⟨u, rfl, ru⟩ := vals1 rx
        obtain rfl : u = Value.ref a := ru
        obtain ⟨its, rv, ⟨o, ho, hcl, n, hd⟩, hz⟩ := I.tuple (show SqT X.K H a vs from .inl (.inr ⟨oo, ha⟩))
        obtain ⟨kvs, rs, ts, g1, g2, eu, g4, g5⟩ := rows_at I rl rv hp
        have eo : oo = o := by
          have := (I.hok a _ ha).1
          rw [ho] at this
          exact (Option.some.inj this).symm
        subst eo
        have ek : rs.map (·.1) = ps.map (·.1) := (kt_keys g2).trans (rkv_keys g1)
        have el : rs.length = ps.length := by have := congrArg List.length ek; simpa using this
        have nd : ((([] : List (List Key × Addr × Value)) ++ rs).map (·.1)).Nodup := by rw [List.nil_append, ek]; exact hn.1
        have hl : kvs.length = rs.length := by have := congrArg List.length (kt_keys g2); simpa using this.symm
        have hsz : rs.length ≤ sizeLine := by rw [el, sizeLine_eq]; omega
        have hs : (s.heap.objs.size == sysModules) = false := beq_eq_false_iff_ne.mpr (Nat.ne_of_gt I.big)
        let ps2 : List (Value × Value) := rs.map fun x => (.ref x.2.1, x.2.2)
        have e2 : ps2.length = rs.length := by simp [ps2]
        have pit : PairItems s.heap its.toArray (fun j => ts.getD j 0) ps2 := by
          refine ⟨by rw [List.size_toArray, eu, List.length_map, g4, e2], fun j k v e => ?_⟩
          have e' : (rs[j]?).map (fun x => ((.ref x.2.1, x.2.2) : Value × Value)) = some (k, v) := by rw [← List.getElem?_map]; exact e
          cases er : rs[j]? with
          | none => rw [er] at e'; cases e'
          | some x =>
            rw [er] at e'
            cases e'
            obtain ⟨T, h1, h2, _⟩ := g5 j x er
            have hg : ts.getD j 0 = T := by rw [List.getD_eq_getElem?_getD, h1]; rfl
            dsimp only; rw [hg]
            refine ⟨?_, .inl h2⟩
            rw [List.getElem?_toArray, eu, List.getElem?_map, h1]
            rfl
        refine call_dict_pairsH (knd := tupleKind (mixKind X.prog X.w)) (ps := rs) (PairArg.tuple a its.toArray (fun j => ts.getD j 0) ps2) (I.ok.hd hc) (show X.A.units + 1 + 1 < cLine by omega) ⟨⟨oo, n, ho, hcl, hdn, hd⟩, pit⟩ ⟨e2.symm, fun j k v e => ?_⟩ (fun h' kp x hx => ?_) (by rw [e2]; exact hsz) fun h' tk dd kp => ?_
        · have e' : (rs[j]?).map (fun x => ((.ref x.2.1, x.2.2) : Value × Value)) = some (k, v) := by rw [← List.getElem?_map]; exact e
          cases er : rs[j]? with
          | none => rw [er] at e'; cases e'
          | some x => rw [er] at e'; cases e'; exact ⟨x.1, x.2.1, rfl, rfl⟩
        · obtain ⟨j, hj⟩ := List.getElem?_of_mem hx
          obtain ⟨T, _, _, hk⟩ := g5 j x hj
          have I2 : Inv X pins σ H { s with heap := h' } := I.kept (t' := s.toks) fun b ob e => kp b ob (Nat.ne_of_lt (Heap.lt_size e)) (by simp) e
          exact L2.key_of I2.hok hk
        · rw [stored_new rs [] nd, List.nil_append] at dd
          have kp2 : ∀ b o, s.heap.get? b = some o → h'.get? b = some o := fun b o e => kp b o (by simp) e
          have hf := I.hok.fresh (Nat.le_refl s.heap.objs.size)
          have m : Mn ι H (ι ++ [s.heap.objs.size]) (upd H s.heap.objs.size (.dT kvs)) := Mn.new hf
          have s2 : SR X.K X.mg (ι ++ [s.heap.objs.size]) (S ++ [some (.dt ps)]) (upd H s.heap.objs.size (.dT kvs)) := hS.new hf (by intro _ z; cases z) ⟨kvs, upd_same, m.rkv g1⟩
          have ok : ObjOk X.prog X.w (upd H s.heap.objs.size (.dT kvs)) h' s.heap.objs.size (.dT kvs) := by
            obtain ⟨o2, es, ep, d1, d2, d3, d4, d5, d6⟩ := dd
            refine ⟨by rw [hl]; exact hsz, hs, rs, ?_, o2, es, ep, d1, d2, d3, d4, d6⟩
            exact kt_at (m.tups) g2
          refine ⟨.ref s.heap.objs.size, _, I.laid (t' := tk) kp2 (Nat.le_refl _) ok, rfl, ?_⟩
          refine h _ _ m s2 _ ⟨s.heap.objs.size, rfl, ?_⟩
          rw [hS.len]; simp
      · exact h.bad
    · exact h.bad
  · exact h.bad
end
end DL
namespace DL
open PySem PySem.Spec PyProof.Rows L2
open SeqAt (shaped)
/-! ### sorted(xs), xs data that can be compared -/
def pyd (d : D) : PyData := (py d).getD .none
def tup1 : PyData → Bool
  | .tuple (_ :: _) => true
  | _ => false
def notTN : PyData → Bool
  | .none => false
  | .tuple _ => false
  | _ => true
def sortOk (ps : List PyData) : Prop := (ps.all fun a => ps.all fun b => PySem.W.alike a b) = true ∧ (ps.all tup1 = true ∨ ps.all notTN = true) ∧ PyData.depthAll ps ≤ 60 ∧ ps.length ≤ 1000000
instance (ps : List PyData) : Decidable (sortOk ps) := by unfold sortOk; infer_instance
def leX (a b : D) : Bool := !PySem.W.dataLt (pyd b) (pyd a)
def sortedX (xs : List D) : M D := fun S => match oneL S xs with
  | some l => (match pys l with
    | some ps => if sortOk ps then .ok (.lst (l.mergeSort leX)) S else .bad
    | none => .bad)
  | none => .bad
theorem pys_map : ∀ {l : List D} {ps : List PyData}, pys l = some ps → ps = l.map pyd
  | [], ps, h => by cases h; rfl
  | d :: l, ps, h => by
    unfold pys at h
    cases e1 : py d with
    | none => rw [e1] at h; cases h
    | some p =>
      cases e2 : pys l with
      | none => rw [e1, e2] at h; cases h
      | some qs =>
        rw [e1, e2] at h
        cases h
        rw [List.map_cons, ← pys_map e2]
        congr 1
        unfold pyd
        rw [e1]
        rfl
theorem depth_mem : ∀ {ps : List PyData} {p : PyData}, p ∈ ps → p.depth ≤ PyData.depthAll ps
  | q :: ps, p, h => by
    rw [PyData.depthAll]
    rcases List.mem_cons.mp h with rfl | h
    · exact Nat.le_max_left _ _
    · exact Nat.le_trans (depth_mem h) (Nat.le_max_right _ _)
theorem sortOk_at {ps : List PyData} (h : sortOk ps) : PySem.W.AllAlike ps ∧ PySem.W.Sortable ps := by
  obtain ⟨h1, h2, _⟩ := h
  refine ⟨fun d hd d' hd' => List.all_eq_true.mp (List.all_eq_true.mp h1 d hd) d' hd', ?_⟩
  rcases h2 with h2 | h2
  · refine .inl fun d hd => ?_
    have := List.all_eq_true.mp h2 d hd
    unfold tup1 at this
    split at this
    · exact ⟨_, _, rfl⟩
    · cases this
  · refine .inr fun d hd => ?_
    have := List.all_eq_true.mp h2 d hd
    unfold notTN at this
    split at this
    · cases this
    · cases this
    · rename_i a b
      exact ⟨a, b⟩
section
variable {X : Cx} {W : WE} {pins : List (Addr × Obj)} {σ : L2.St} {H : Hp} {s : Shared} {ι : List Addr}
theorem each_zip {K : PySem.W.Frag} : ∀ {l : List D} {vs : List V} {us : List Value}, Rps K ι H l vs → Vals vs us → PySem.W.EachIs (fun (u : Value) (b : V × D) => RelV b.1 u ∧ Rp K ι H b.2 b.1) us (vs.zip l)
  | [], _, _, r, rv => by cases r; cases rv; exact .nil
  | d :: l, _, _, r, rv => by
    obtain ⟨v, w, rfl, r1, r2⟩ := r
    cases rv with
    | cons u1 u2 => exact .cons ⟨u1, r1⟩ (each_zip r2 u2)
theorem zip_snd {K : PySem.W.Frag} : ∀ {l : List D} {vs : List V}, Rps K ι H l vs → (vs.zip l).map (·.2) = l
  | [], _, r => by cases r; rfl
  | d :: l, _, r => by
    obtain ⟨v, w, rfl, r1, r2⟩ := r
    rw [List.zip_cons_cons, List.map_cons, zip_snd r2]
theorem each_out {K : PySem.W.Frag} : ∀ {out : List Value} {bs : List (V × D)}, PySem.W.EachIs (fun (u : Value) (b : V × D) => RelV b.1 u ∧ Rp K ι H b.2 b.1) out bs → Vals (bs.map (·.1)) out ∧ Rps K ι H (bs.map (·.2)) (bs.map (·.1))
  | _, _, .nil => ⟨.nil, rfl⟩
  | _, _, .cons h t => by
    obtain ⟨h1, h2⟩ := each_out t
    exact ⟨.cons h.1 h1, _, _, rfl, h.2, h2⟩
def rSortX (K : PySem.W.Frag) : List V → Hp → VK → Prop := fun xs H Q => ∃ ι a l ws ps, xs = [.ref a] ∧ SqL K H a ws ∧ Rps K ι H l ws ∧ pys l = some ps ∧ sortOk ps ∧ ∀ p vs, H p = none → Rps K ι H (l.mergeSort leX) vs → Q (.ref p) (upd H p (.lst vs))
theorem cr_sortX (hu : X.A.units + 64 < cLine) : CallR X (.builtin "sorted") (rSortX X.K) := by
  intro pins s σ H xs us Q I rx h
  obtain ⟨ι, a, l, ws, ps, rfl, hq, hr, hp, ok, q⟩ := h
  obtain ⟨u, rfl, ru⟩ := vals1 rx
  obtain rfl : u = Value.ref a := ru
  obtain ⟨its, rv, pl, hz⟩ := I.list hq
  have el : ws.length = its.length := rv.length
  have e0 := hr.length
  obtain ⟨as, rd⟩ := pys_reads I l ws its ps hr rv hp
  have ep := pys_map hp
  have em : (ws.zip l).map (fun b : V × D => pyd b.2) = ps := by
    rw [show (fun b : V × D => pyd b.2) = pyd ∘ (fun b : V × D => b.2) from rfl, ← List.map_map, zip_snd hr, ep]
  have zl : (ws.zip l).length = ps.length := by rw [← em, List.length_map]
  have rd2 : ReadsAll s.heap its ((ws.zip l).map fun b : V × D => pyd b.2) as := by rw [em]; exact rd
  obtain ⟨al, so⟩ := sortOk_at ok
  refine PySem.W.sorted_data (vs := its) (enc := fun b : V × D => pyd b.2) pl.isList (each_zip hr rv) (PySem.W.readsAll_each _ rd2) (by rw [em]; exact al) (by rw [em]; exact so) (by rw [zl, sizeLine_eq]; have := ok.2.2.2; omega) (fun b hb => ?_) fun out ol eo => ?_
  · have hm : pyd b.2 ∈ ps := by rw [← em]; exact List.mem_map.mpr ⟨b, hb, rfl⟩
    have := depth_mem hm
    have := ok.2.2.1
    omega
  · obtain ⟨o1, o2⟩ := each_out eo
    have e3 : ((ws.zip l).mergeSort (PySem.W.dataLe false fun b : V × D => pyd b.2)).map (·.2) = l.mergeSort leX := by
      rw [List.map_mergeSort (r := PySem.W.dataLe false fun b : V × D => pyd b.2) (s := leX) (f := fun b : V × D => b.2) (fun a _ b _ => rfl), zip_snd hr]
    rw [e3] at o2
    obtain ⟨c, hc⟩ := sortedAll_at s.heap its out.toArray
    have e4 : ((ws.zip l).mergeSort (PySem.W.dataLe false fun b : V × D => pyd b.2)).length = ws.length := by
      rw [List.length_mergeSort, List.length_zip, e0]; simp
    exact ⟨.ref (s.heap.objs.size + 1), _, I.laid (t' := s.toks) (fun _ _ => sortedAll_old) (Nat.le_succ _) (show ObjOk X.prog X.w _ _ _ (.lst _) from ⟨by rw [List.length_map, e4]; exact hz, out, c, o1, hc⟩), rfl, q _ _ (I.hok.fresh (Nat.le_succ _)) o2⟩
theorem C_sortedX (hu : X.A.units + 64 < cLine) : CalD X W (.builtin "sorted") sortedX := by
  refine ⟨_, cr_sortX hu, fun ι S H σ xs vs Q s r h => ?_⟩
  unfold sortedX at h
  split at h
  · rename_i l hl
    split at h
    · rename_i ps hp
      split at h
      · rename_i ok
        obtain ⟨a, ws, rfl, hq, rs⟩ := one_at s r hl
        exact ⟨ι, a, l, ws, ps, rfl, hq, rs, hp, ok, fun p vs hp r2 => fz_list s r2 h p hp⟩
      · exact h.bad
    · exact h.bad
  · exact h.bad
end
end DL
namespace DL
open PySem PySem.Spec PyProof.Rows L2
open SeqAt (shaped)
/-! ### d.get(k, x); plain tuples made; x < y of data -/
def dkQ (S : Store) : D → Bool
  | .ob n => (match S[n]? with
    | some (some (.dk _)) => true
    | some (some (.dt _)) => true
    | _ => false)
  | _ => false
def dkCk (o : D) : M Unit := fun S => if dkQ S o = true then .ok () S else .bad
def getV (o k x : D) : M D := fun S => match o with
  | .ob n => (match S[n]? with
    | some (some (.dk l)) => (match keyD k with
      | some kk => .ok ((valD l kk).getD x) S
      | none => .bad)
    | some (some (.dt l)) => (match k with
      | .tup ys => (match keysL ys with
        | some kk => .ok ((valD l kk).getD x) S
        | none => .bad)
      | _ => .bad)
    | _ => .bad)
  | _ => .bad
def getF (fo fk fx : Frame → M D) : Frame → M D := fun fr => bnd (fo fr) fun o => bnd (dkCk o) fun _ => bnd (fk fr) fun k => bnd (fx fr) fun x => getV o k x
section
variable {X : Cx} {W : WE} {a b c e : Expr} {pos ap cp : Pos} {fa fb fc : Frame → M D} {ι : List Addr} {H : Hp} {σ : L2.St} {s : Shared} {pins : List (Addr × Obj)} {es : List Expr} {fs : List (Frame → M D)}
theorem dk_at {S : Store} {d : D} {v : V} (s : SR X.K X.mg ι S H) (r : Rp X.K ι H d v) (h : dkQ S d = true) : ∃ n p, d = .ob n ∧ v = .ref p ∧ ι[n]? = some p ∧ IsD H p := by
  unfold dkQ at h
  split at h
  · rename_i n
    obtain ⟨p, rfl, hi⟩ := r
    refine ⟨n, p, rfl, rfl, hi, ?_⟩
    split at h
    · rename_i l hS
      obtain ⟨p', e1, vs, h1, _⟩ := s.obj n _ hS
      rw [hi] at e1
      cases e1
      exact .inl ⟨vs, .inl h1⟩
    · rename_i l hS
      obtain ⟨p', e1, vs, h1, _⟩ := s.obj n _ hS
      rw [hi] at e1
      cases e1
      exact .inr ⟨vs, .inl h1⟩
    · cases h
  · cases h
theorem DE_get (hu : X.A.units + 64 < cLine) (ha : DE X W fa a) (hb : DE X W fb b) (hc : DE X W fc c) (m : M2 X a "get" ap b c cp := by exact ⟨rfl, rfl, rfl, rfl⟩) : DE X W (getF fa fb fc) (.Call (.Attribute a "get" ap) [b, c] [] cp) := by
  refine DE.of (pe_dget2 (by omega) ha hb hc m) fun σ H Q ι fr S s f h => ⟨ι, fr, S, s, f, h.bnd.imp (fun o S1 ι1 H1 m1 s1 q v r1 => ?_) fun _ _ _ _ _ _ z => z⟩
  by_cases hd : dkQ S1 o = true
  · rw [bnd_ok (show dkCk o S1 = .ok () S1 from if_pos hd)] at q
    obtain ⟨n, p, rfl, rfl, hi, isd⟩ := dk_at s1 r1 hd
    refine ⟨p, rfl, isd, ι1, fr, S1, s1, m1.fr f, q.bnd.imp (fun k S2 ι2 H2 m2 s2 q v r2 => ?_) fun _ _ _ _ _ _ z => z⟩
    refine ⟨ι2, fr, S2, s2, (m1.trans m2).fr f, q.bnd.imp (fun x S3 ι3 H3 m3 s3 q w r3 => ?_) fun _ _ _ _ _ _ z => z⟩
    have hi3 := (m2.trans m3).ix hi
    have rk := m3.rp r2
    unfold getV at q
    dsimp only at q
    split at q
    · rename_i l hS
      obtain ⟨p', e1, vs, hp, hk⟩ := s3.obj n _ hS
      rw [hi3] at e1
      cases e1
      split at q
      · rename_i kk hy
        have hv := keyD_rp rk hy
        subst hv
        rcases hk.val (k := kk) with ⟨e1, e2⟩ | ⟨d, w', e1, e2, rw'⟩
        · rw [e1] at q
          exact ⟨none, by rw [← e2]; exact DGet.k hp, .inl (q.ok s3 _ r3)⟩
        · rw [e1] at q
          exact ⟨some w', by rw [← e2]; exact DGet.k hp, .inl (q.ok s3 _ rw')⟩
      · exact q.bad
    · rename_i l hS
      obtain ⟨p', e1, vs, hp, hk⟩ := s3.obj n _ hS
      rw [hi3] at e1
      cases e1
      split at q
      · rename_i ys
        split at q
        · rename_i kk hy
          obtain ⟨t, us, rfl, ht, hus⟩ := rk
          have hv := keysL_rps hus hy
          subst hv
          rcases hk.val (k := kk) with ⟨e1, e2⟩ | ⟨d, w', e1, e2, rw'⟩
          · rw [e1] at q
            exact ⟨none, by rw [← e2]; exact DGet.t hp ht, .inl (q.ok s3 _ r3)⟩
          · rw [e1] at q
            exact ⟨some w', by rw [← e2]; exact DGet.t hp ht, .inl (q.ok s3 _ rw')⟩
        · exact q.bad
      · exact q.bad
    · exact q.bad
  · rw [bnd_bad (show dkCk o S1 = .bad from if_neg hd)] at q
    exact q.bad
/-! ### plain tuples -/
/-- a new plain tuple -/
def tTupP (t : TA) : TE := fun σ H Q => t σ H fun xs H1 => xs.length ≤ sizeLine ∧ ∀ p o, H1 p = none → o.dict = none → Q (.ref p) (upd H1 p (.frz o (.tup xs)))
theorem pe_tupP {x1} {t : TA} (h : PA X es t) : PE X (.Tuple es x1 pos) (tTupP t) := by
  refine ⟨fun pins s σ H Q I hq => wpAny_Tuple_spliced (thn (h.run pos pins s σ H _ I hq) fun us s1 ⟨xs, H1, I1, r, z, q⟩ => ⟨by rw [← r.length]; exact z, ?_⟩)⟩
  let o : Obj := { cls := .type "tuple", data := .seq us.toArray }
  refine ⟨.ref s1.heap.objs.size, _, I1.laid (o := .frz o (.tup xs)) (t' := s1.toks) (fun b u e => Heap.get?_push_of_some _ e) (Nat.le_refl _) ⟨Heap.get?_push_size _ rfl, z, us, r, ⟨o, Heap.get?_push_size _ rfl, rfl, _, rfl⟩⟩, rfl, q _ _ (I1.hok.fresh (Nat.le_refl _)) rfl⟩
def tupP (fs : List (Frame → M D)) : Frame → M D := fun fr => bnd (seqA fs fr) fun l => ret (.ptu l)
theorem nw_tupP {ι : List Addr} {S : Store} {H : Hp} {Q : VK} {l : List D} {vs : List V} {e : Exc → Store → List Addr → Hp → Prop} (s : SR X.K X.mg ι S H) (r : Rps X.K ι H l vs) (h : Po X.K X.mg ι H (.ok (.ptu l) S) (kE X.K Q) e)
    (p : Addr) (o : Obj) (hp : H p = none) (hd : o.dict = none) : Fz Q (.ref p) (upd H p (.frz o (.tup vs))) := by
  have m : Mn ι H ι (upd H p (.frz o (.tup vs))) := Mn.fresh hp
  exact .inl (h _ _ m (s.fresh hp) _ ⟨p, o, vs, rfl, upd_same, hd, m.rps r⟩)
theorem DE_tupP {k : Nat} (h : DA X W (seqA fs) es) (hn : fs.length ≤ 1000 := by exact Nat.le_of_ble_eq_true rfl) : DE X W (tupP fs) (.Tuple es k pos) := by
  refine DE.of (pe_tupP h) fun σ H Q ι fr S s f q => ⟨ι, fr, S, s, f, q.bndE.imp (fun l S1 ι1 H1 m1 s1 h1 vs r1 => ?_) fun _ _ _ _ _ _ z => z⟩
  obtain ⟨he, h1⟩ := h1
  exact ⟨by rw [← r1.length, seqA_len he]; exact small_line hn, fun p o hp hd => nw_tupP s1 r1 h1 p o hp hd⟩
theorem call_tuple_ofP : CallR X (.type "tuple") (fun xs H Q => ∃ p ys, xs = [.ref p] ∧ SqL X.K H p ys ∧ ∀ l o, H l = none → o.dict = none → Q (.ref l) (upd H l (.frz o (.tup ys)))) := by
  intro pins s σ H xs us Q I r h
  obtain ⟨p, ys, rfl, hq, q⟩ := h
  obtain ⟨u, rfl, rx⟩ := vals1 r
  obtain rfl : u = Value.ref p := rx
  obtain ⟨its, r', pl, hz⟩ := I.list hq
  refine call_tuple_list pl.isList (fun h' kp => ?_) (by rw [List.size_toArray, ← r'.length]; exact hz)
  have I1 : Inv X pins σ H { s with heap := h' } := I.kept (t' := s.toks) kp
  let o : Obj := { cls := .type "tuple", data := .seq its.toArray }
  exact ⟨.ref h'.objs.size, _, I1.laid (h' := h'.push o) (o := .frz o (.tup ys)) (t' := s.toks) (fun b o e => Heap.get?_push_of_some _ e) (Nat.le_refl _) ⟨Heap.get?_push_size _ rfl, hz, its, r', ⟨o, Heap.get?_push_size _ rfl, rfl, _, rfl⟩⟩, rfl, q _ _ (I1.hok.fresh (Nat.le_refl _)) rfl⟩
/-- tuple(list): a plain one -/
def tupleP (xs : List D) : M D := fun S => match oneL S xs with
  | some l => .ok (.ptu l) S
  | none => .bad
theorem C_tupleP : CalD X W (.type "tuple") tupleP := by
  refine ⟨_, call_tuple_ofP, fun ι S H σ xs vs Q s r h => ?_⟩
  unfold tupleP at h
  split at h
  · rename_i l hl
    obtain ⟨a, ws, rfl, hq, rs⟩ := one_at s r hl
    exact ⟨a, ws, rfl, hq, fun p o hp hd => nw_tupP s rs h p o hp hd⟩
  · exact h.bad
/-! ### x < y of data -/
def notN : PyData → Bool
  | .none => false
  | _ => true
theorem notN_of {p : PyData} (h : notN p = true) : p ≠ .none := fun z => by subst z; cases h
def ltX (x y : D) : M D := fun S => match pyS S x, pyS S y with
  | some p, some q => if PySem.W.alike p q = true ∧ notN p = true ∧ p.depth ≤ 60 then .ok (.bl (PySem.W.dataLt p q)) S else .bad
  | _, _ => .bad
theorem OpD_ltX (hu : X.A.units + 64 < cLine) : OpD X W (compareOp .Lt) ltX := by
  refine OpD.base fun pins s σ H x y v u Q ι S dx dy e I rx ry hS r1 r2 h => ?_
  unfold ltX at h
  split at h
  · rename_i p q hp hq
    split at h
    · rename_i ok
      obtain ⟨as, w1⟩ := pyS_reads I hS r1 rx hp
      obtain ⟨bs, w2⟩ := pyS_reads I hS r2 ry hq
      exact PySem.W.lt_data w1 w2 ok.1 (notN_of ok.2.1) (by have := ok.2.2; have := Nat.min_le_left p.depth q.depth; omega) ⟨.bl _, H, I, rfl, h.ok hS _ rfl⟩
    · exact h.bad
  · exact h.bad
end
end DL
namespace DL
open PySem PySem.Spec PyProof.Rows L2
open SeqAt (shaped)
/-! ### a tuple once, no times -/
theorem mul_once (l : Addr) (items : Array Value) (n : Nat) (dd : Option Addr) (sl : Array (Option Value)) (u : Tok) :
    Meets (Builtin.«tuple.__mul__» ⟨[.ref l, .int 1 u], []⟩) (fun _ R s => s.heap.get? l = some { cls := .type "tuple", dict := dd, data := .seq items n, slots := sl } ∧ R (.ok (.ret (Value.ref l))) s) :=
  .of_wp fun prog w A R s h => by
    obtain ⟨hp, g, d, tk, os⟩ := s
    obtain ⟨hl, h⟩ := h
    have f1 := AutoSeq1.idx_int
    wp_walk using wpAny_loadPart' hl
    repeat (first
      | (refine wpAny_ite_false (by decide) ?_; wp_walk using wpAny_loadPart' hl)
      | (refine wpAny_ite_true (by simp) ?_; wp_walk using wpAny_loadPart' hl))
    all_goals first | exact ⟨_, rfl, h⟩ | skip
theorem mul_none (l : Addr) (items : Array Value) (n : Nat) (dd : Option Addr) (sl : Array (Option Value)) (u : Tok) (c1 : (items.isEmpty || (0 : Int) == 1) = false) :
    Meets (Builtin.«tuple.__mul__» ⟨[.ref l, .int 0 u], []⟩) (fun _ R s => s.heap.get? l = some { cls := .type "tuple", dict := dd, data := .seq items n, slots := sl } ∧
      R (.ok (.ret (Value.ref s.heap.objs.size))) { s with heap := s.heap.push { cls := Value.type "tuple", data := Data.seq #[] }, toks := s.toks }) :=
  .of_wp fun prog w A R s h => by
    obtain ⟨hp, g, d, tk, os⟩ := s
    obtain ⟨hl, h⟩ := h
    have f1 := AutoSeq1.idx_int
    wp_walk using wpAny_loadPart' hl
    repeat (first
      | (refine wpAny_ite_false (by decide) ?_; wp_walk using wpAny_loadPart' hl)
      | (refine wpAny_ite_false (decide_eq_false (by rw [c1]; exact Bool.false_ne_true)) ?_; wp_walk using wpAny_loadPart' hl)
      | (refine wpAny_ite_true (by simp) ?_; wp_walk using wpAny_loadPart' hl))
    all_goals first | exact ⟨_, rfl, h⟩ | skip
def rRep01 (K : PySem.W.Frag) : R2 := fun x y H Q => ∃ l k xs, x = .ref l ∧ y = .int k ∧ SqT K H l xs ∧ xs ≠ [] ∧ ((k = 1 ∧ Q (.ref l) H) ∨ (k = 0 ∧ ∀ p, H p = none → Q (.ref p) (upd H p (.tup []))))
section
variable {X : Cx} {W : WE}
theorem op_rep01 : OpR X (binaryOp .Mult) (rRep01 X.K) := by
  intro pins s σ H x y v u Q I rx ry h
  obtain ⟨l, k, xs, rfl, rfl, hT, hne, h⟩ := h
  obtain rfl : v = Value.ref l := rx
  obtain ⟨t, rfl⟩ := ry
  obtain ⟨its, r, ⟨⟨cls, dd, data, sl⟩, ho, hc, n, hd⟩, hs⟩ := I.tuple hT
  simp only at hc hd
  subst hc hd
  have hle : its.length = xs.length := r.length.symm
  have hi : its.toArray.isEmpty = false := by
    cases its with
    | nil => exact absurd (List.eq_nil_of_length_eq_zero hle.symm) hne
    | cons a b => rfl
  rcases h with ⟨rfl, q⟩ | ⟨rfl, q⟩
  · refine wpAny_binaryOp_repeat_ref (T := "tuple") (U := "int") (by decide) ⟨_, ho, rfl⟩ (fun s' => typeIs_int s' 1 t) noFill_tuple_mul F.fills_int_mul F.slot_int_rmul repeat_tuple F.slot_int_index.lookup
      (call_meets F.slot_int_rmul (typeIs_int s 1 t) F.entry_int_rmul (F.args_int_rmul_2 _ _) (int_rmul_tuple 1 t l its.toArray n dd sl)
        ⟨ho, rfl, ⟨_, ho, rfl⟩, call_meets F.slot_tuple_mul ⟨_, ho, rfl⟩ F.entry_tuple_mul (F.args_tuple_mul_2 _ _) (mul_once l its.toArray n dd sl t) ⟨ho, ?_⟩⟩)
    exact ⟨.ref l, H, I, rfl, q⟩
  · refine wpAny_binaryOp_repeat_ref (T := "tuple") (U := "int") (by decide) ⟨_, ho, rfl⟩ (fun s' => typeIs_int s' 0 t) noFill_tuple_mul F.fills_int_mul F.slot_int_rmul repeat_tuple F.slot_int_index.lookup
      (call_meets F.slot_int_rmul (typeIs_int s 0 t) F.entry_int_rmul (F.args_int_rmul_2 _ _) (int_rmul_tuple 0 t l its.toArray n dd sl)
        ⟨ho, rfl, ⟨_, ho, rfl⟩, call_meets F.slot_tuple_mul ⟨_, ho, rfl⟩ F.entry_tuple_mul (F.args_tuple_mul_2 _ _) (mul_none l its.toArray n dd sl t (by rw [hi]; rfl)) ⟨ho, ?_⟩⟩)
    exact ⟨.ref s.heap.objs.size, _, I.laid (t' := s.toks) (o := .tup []) (fun b ob q => Heap.get?_push_of_some _ q) (Nat.le_refl _) ⟨Nat.zero_le _, [], .nil, IsTup.new _ _⟩, rfl, q _ (I.hok.fresh (Nat.le_refl _))⟩
/-- text and tuple times: mul2D, also tuples once and no times -/
noncomputable def mulT (x y : D) : M D := fun S => match x, y with
  | .tup (d :: l), .int k => if k = 1 then .ok (.tup (d :: l)) S else if k = 0 then .ok (.tup []) S else mul2D (.tup (d :: l)) (.int k) S
  | x, y => mul2D x y S
theorem OpD_mulT : OpD X W (binaryOp .Mult) mulT := by
  obtain ⟨r, h1, h2⟩ := OpD_mul2 (X := X) (W := W)
  refine ⟨_, op_rep01.or h1, fun ι S H σ x y v u Q s r1 r2 h => ?_⟩
  unfold mulT at h
  split at h
  · rename_i d l k
    by_cases e1 : k = 1
    · rw [if_pos e1] at h
      subst e1
      obtain ⟨a, vs, rfl, ha, ra⟩ := r1
      cases r2
      exact .inl ⟨a, 1, vs, rfl, rfl, .of ha, (by rintro rfl; obtain ⟨_, _, z, _⟩ := ra; cases z), .inl ⟨rfl, .inl (h.ok s _ ⟨a, vs, rfl, ha, ra⟩)⟩⟩
    · rw [if_neg e1] at h
      by_cases e0 : k = 0
      · rw [if_pos e0] at h
        subst e0
        obtain ⟨a, vs, rfl, ha, ra⟩ := r1
        cases r2
        refine .inl ⟨a, 0, vs, rfl, rfl, .of ha, (by rintro rfl; obtain ⟨_, _, z, _⟩ := ra; cases z), .inr ⟨rfl, fun p hp => ?_⟩⟩
        have m : Mn ι H ι (upd H p (.tup [])) := Mn.fresh hp
        exact .inl (h _ _ m (s.fresh hp) _ ⟨p, _, rfl, upd_same, rfl⟩)
      · rw [if_neg e0] at h
        exact .inr (h2 ι S H σ _ _ _ _ Q s r1 r2 h)
  · exact .inr (h2 ι S H σ _ _ _ _ Q s r1 r2 h)
end
/-! ### a, b, .. = a tuple or a list -/
def tgSeq (gs : List (D → Frame → M Frame)) : D → Frame → M Frame := fun d fr S => match seqL S d with
  | some l => if l.length = gs.length then tgAll gs l fr S else .bad
  | none => .bad
section
variable {X : Cx} {W : WE} {pos : Pos}
theorem DG_seq {ts : List Expr} {k : Nat} {n : List Nat} {gs : List (D → Frame → M Frame)} (hc : X.calm = true) (h : DGs X n gs ts) (hl : ts.length = gs.length := by rfl)
    (hn : (assignEach ts X.env).length = ts.length := by rfl) (hst : (assignEach ts X.env).findIdx? (·.1) = none := by rfl) : DG X n (tgSeq gs) (.Tuple ts k pos) := by
  refine ⟨fun pins s σ H v u Q I r h' => ?_⟩
  obtain ⟨ι, fr, S, d, hS, hF, hr, h'⟩ := h'
  unfold tgSeq at h'
  split at h'
  · rename_i l hq
    obtain ⟨a, vs, rfl, ha, rs⟩ := seq_at hS hr hq
    split at h'
    · rename_i hlen
      have e : vs.length = ts.length := by rw [← rs.length, hlen, hl]
      rcases ha with ha | ha
      · exact (pg_lst hc h hn hst).run pins s σ H _ u Q I r ⟨a, vs, rfl, ha, e, ι, fr, S, l, hS, hF, rs, h'⟩
      · exact (pg_tup hc h hn hst).run pins s σ H _ u Q I r ⟨a, vs, rfl, ha, e, ι, fr, S, l, hS, hF, rs, h'⟩
    · exact h'.bad
  · exact h'.bad
end
/-! ### names that are given comprehensions -/
section
variable {X : Cx} {W : WE} {elt tg iter : Expr} {pos : Pos} {ifs : List Expr} {scope : Scope} {own : List (Str × Nat)} {ts : List Nat} {g : D → Frame → M Frame} {ft : Frame → M Bool} {fe : Frame → M D} {fi : Frame → M Src} {N : List Str} {sc : Scope} {bb : Option Scope} {k i : Nat} {x : Str}
theorem sw_cell {gs : List Comprehension} {py : Pos} {l : Nat} (c : CxD X N sc bb k) (hl : sc.names.lookup x = some .cell) : swapsWith (.ListComp elt gs scope pos) (some (.Name x py)) l X.env = pure false := by
  have ky : X.env.kindOf x = some .cell := by unfold Env.kindOf; rw [c.hsc]; exact hl
  unfold swapsWith
  simp only [ky, show (some NameKind.cell == some NameKind.local) = false from rfl, Bool.and_false, Bool.false_and]
theorem sw_line {gs : List Comprehension} {py : Pos} {l : Nat} {env : Env} (hl : (py.line == pos.line) = false) : swapsWith (.ListComp elt gs scope pos) (some (.Name x py)) l env = pure false := by
  unfold swapsWith
  simp only [Expr.pos, hl]
  simp
/-- x = [..], an object -/
theorem CxD.setLcO {p' spos : Pos} (c : CxD X N sc bb k) (n : NL N sc i x) (hl : sc.names.lookup x = some .local) (hk : sc.kind = .function) (own : List (Str × Nat)) (hi : DI X W fi tg iter) (ok : BlkOk N sc scope own)
    (B : ∀ (s : Shared) (H : Hp) (C : Addr) (cl : List (Str × Addr)) (fp : List Addr), CxD (X.blk s H scope (compEnvC scope cl C X.env) fp) N (relS scope sc) (some scope) k →
      DG (X.blk s H scope (compEnvC scope cl C X.env) fp) ts g tg ∧ DTs (X.blk s H scope (compEnvC scope cl C X.env) fp) W0 ft ifs ∧ DE (X.blk s H scope (compEnvC scope cl C X.env) fp) W0 fe elt)
    (hts : ∀ i ∈ ts, i ∈ own.map (·.2)) (hline : (p'.line == pos.line) = true) (hany : (scope.names.any fun (n, k) => n == x && (k == .local || k == .cell)) = false) (hs : ∀ x, foldedSetIterable iter X.env x = pure x := by intro _; rfl) :
    DS X W (asgF i (cmpO (own.map (·.2)) fi g ft fe)) (.Assign [.Name x p'] (.ListComp elt [⟨tg, iter, ifs, 0⟩] scope pos) spos) := by
  obtain ⟨wi, h1, h2⟩ := hi
  have hN : X.N[i]? = some x := by rw [c.hN]; exact n.ix
  have hlx : X.env.scope.names.lookup x = some .local := by rw [c.hsc]; exact hl
  have hsw := sw_true (elt := elt) (gs := [⟨tg, iter, ifs, 0⟩]) (l := spos.line) (env := X.env) (by rw [c.hsc]; exact hk) hlx hline hany
  refine DS.of (ps_setLc (g := trG X.K X.mg ts g) (tt := trT X.K X.mg W0 ft) (te := trE X.K X.mg W0 fe) c.calm c.nd hN hlx hsw h1 (by rw [c.hN, c.hsc]; exact ok) (fun s H C cl fp => (B s H C cl fp c.blk).1) (fun s H C cl fp => (B s H C cl fp c.blk).2.1) (fun s H C cl fp => (B s H C cl fp c.blk).2.2) hs) fun D σ H ι fr S s f h => ?_
  have h' : Po X.K X.mg ι H (bnd (cmpF (own.map (·.2)) fi g ft fe fr) (fun l => newO (.lst l)) S) (fun d S1 ι1 H1 => PoS X.K X.mg W ι1 H1 (.ok .nx (fr.set i (some d)) S1) D) (kX X.K X.mg W σ) := PoS.ex f h
  refine lc_data h2 hts s f h'.bndE fun l S' ι0 H0 ι' H' p vv m0 m hp k s' hl hn r => ?_
  have he := (k ι' H' m s').1
  have m2 : Mn ι0 H0 (ι' ++ [p]) H' := by
    obtain ⟨t, rfl, ht⟩ := m.pre
    refine ⟨⟨t ++ [p], by simp, fun a ha => ?_⟩, m.live, m.tups, m.frzs, m.kept⟩
    rcases List.mem_append.mp ha with ha | ha
    · exact ht a ha
    · rw [List.mem_singleton.mp ha]; exact hp
  have mw : Mw ι' H' (ι' ++ [p]) H' := ⟨⟨_, rfl⟩, fun _ _ z => z, fun _ _ _ z => z⟩
  have s2 : SR X.K X.mg (ι' ++ [p]) (S' ++ [some (.lst l)]) H' := by
    refine ⟨?_, by simp [s'.len], fun a ha => ?_, fun n o e => ?_⟩
    · rw [List.nodup_append]
      exact ⟨s'.nd, by simp, fun a ha b hb z => by simp at hb; subst hb; subst z; exact hn ha⟩
    · rcases List.mem_append.mp ha with ha | ha
      · exact s'.occ a ha
      · rw [List.mem_singleton.mp ha, hl]; exact ⟨by simp, by intro _ z; cases z⟩
    · by_cases hnl : n < S'.length
      · rw [List.getElem?_append_left hnl] at e
        obtain ⟨a, e1, r1⟩ := s'.obj n o e
        exact ⟨a, mw.ix e1, mw.or rfl r1⟩
      · have hz : n = S'.length := by
          have := (List.getElem?_eq_some_iff.mp e).1
          simp at this
          omega
        subst hz
        rw [List.getElem?_append_right (Nat.le_refl _)] at e
        simp at e
        subst e
        refine ⟨p, ?_, vv, hl, mw.rps r⟩
        rw [s'.len]
        simp
  rw [bnd_ok he] at h'
  have q := h' (ι' ++ [p]) H' (m0.trans m2) s2
  refine q.ok s2 (FR.set ((m0.trans m2).fr f) ⟨p, rfl, ?_⟩)
  rw [s'.len]
  simp
end
end DL
namespace DL
open PySem PySem.Spec PyProof.Rows L2
section
variable {X : Cx} {W : WE} {elt : Expr} {pos ap cp p tp : Pos} {ifs : List Expr} {scope : Scope} {ts : List Nat} {g : D → Frame → M Frame} {ft : Frame → M Bool} {fe : Frame → M D} {N : List Str} {sc : Scope} {bb : Option Scope} {k i : Nat} {x : Str} {elts : List Expr} {kk : Nat}
theorem CxD.pv (c : CxD X N sc bb k) (n : NL N sc i x) : PE X (.Name x p) (tVar i) := pe_var (by rw [c.hN]; exact n.ix) (by rw [c.hsc]; exact n.lc) n.d1 n.d2
theorem CxD.cmpi (c : CxD X N sc bb k) (n : NL N sc i x) (own : List (Str × Nat)) (ok : BlkOk N sc scope own)
    (B : ∀ (s : Shared) (H : Hp) (C : Addr) (cl : List (Str × Addr)) (fp : List Addr), CxD (X.blk s H scope (compEnvC scope cl C X.env) fp) N (relS scope sc) (some scope) k →
      DG (X.blk s H scope (compEnvC scope cl C X.env) fp) ts g (.Tuple elts kk tp) ∧ DTs (X.blk s H scope (compEnvC scope cl C X.env) fp) W0 ft ifs ∧ DE (X.blk s H scope (compEnvC scope cl C X.env) fp) W0 fe elt)
    (hts : ∀ i ∈ ts, i ∈ own.map (·.2)) (hb : attributeBase (.Name x p) "items" X.env (eval (.Name x p) X.env) = eval (.Name x p) X.env := by rfl) (hl : (ap.endLine == cp.line) = true := by rfl)
    (hs : ∀ z, foldedSetIterable (.Call (.Attribute (.Name x p) "items" ap) [] [] cp) X.env z = pure z := by intro _; rfl) :
    DE X W (cmpI (own.map (·.2)) i g ft fe) (.ListComp elt [⟨.Tuple elts kk tp, .Call (.Attribute (.Name x p) "items" ap) [] [] cp, ifs, 0⟩] scope pos) :=
  DE_cmpI c.calm c.nd (c.pv n) hb hl (by rw [c.hN, c.hsc]; exact ok) hts ⟨fun s H C cl fp => (B s H C cl fp c.blk).1, fun s H C cl fp => (B s H C cl fp c.blk).2.1, fun s H C cl fp => (B s H C cl fp c.blk).2.2⟩ hs
theorem CxD.seq {ts : List Expr} {n : List Nat} {gs : List (D → Frame → M Frame)} (c : CxD X N sc bb k) (h : DGs X n gs ts) (hl : ts.length = gs.length := by rfl)
    (hn : (assignEach ts X.env).length = ts.length := by rfl) (hst : (assignEach ts X.env).findIdx? (·.1) = none := by rfl) : DG X n (tgSeq gs) (.Tuple ts kk pos) := DG_seq c.calm h hl hn hst
end
end DL
namespace DL
open PySem PySem.Spec PyProof.Rows L2
/-! ### xs + ys, an object -/
def addO (x y : D) : M D := fun S => match lstL S x, lstL S y with
  | some l, some m => if l.length + m.length ≤ sizeLine then newO (.lst (l ++ m)) S else .bad
  | _, _ => .bad
section
variable {X : Cx} {W : WE}
theorem OpD_addO : OpD X W (binaryOp .Add) addO := by
  refine ⟨_, op_catL, fun ι S H σ x y v u Q s r1 r2 h => ?_⟩
  unfold addO at h
  split at h
  · rename_i l m h1 h2
    obtain ⟨a, vs, rfl, ha, ra⟩ := lst_at s r1 h1
    obtain ⟨b, ws, rfl, hb, rb⟩ := lst_at s r2 h2
    split at h
    · rename_i hl
      have e1 := ra.length
      have e2 := rb.length
      exact ⟨a, b, vs, ws, rfl, rfl, ha, hb, by omega, fun p hp => ob_list s (ra.app rb) h p hp⟩
    · exact h.bad
  · exact h.bad
end
end DL
namespace K09
open PySem PySem.Spec PyProof.Rows L2 DL
def top (i : Nat) : Stmt := PySem.Challenge.pw_levelkeys_k09_whole_rules_of_polynomials.main.body.getD i (.Pass ⟨0, 0, 0, 0⟩)
structure Gs (K : PySem.W.Frag) (mg : Str → Option Value) : Prop where
  b_abs : mg "abs" = none
  b_bool : mg "bool" = none
  b_dict : mg "dict" = none
  b_int : mg "int" = none
  b_isinstance : mg "isinstance" = none
  b_len : mg "len" = none
  b_range : mg "range" = none
  b_repr : mg "repr" = none
  b_sorted : mg "sorted" = none
  b_tuple : mg "tuple" = none
  b_zip : mg "zip" = none
/-! ### x_deck -/
abbrev s_x_deck : Stmt := top 8
def N_x_deck : List Str := ["_law_script", "_law_cell"]
abbrev sc_x_deck : Scope := defScope s_x_deck
def usc_x_deck_1 : Scope := ⟨.function, [(".0", .local), ("_law_cell", .local), ("abs", .globalImplicit)], false, false, []⟩
abbrev sc_x_deck_1 : Scope := relS usc_x_deck_1 sc_x_deck
theorem nl_x_deck_0 : NL N_x_deck sc_x_deck 0 "_law_script" := ⟨rfl, by decide +kernel, by decide +kernel, by decide +kernel⟩
theorem nl_x_deck_1_1 : NL N_x_deck sc_x_deck_1 1 "_law_cell" := ⟨rfl, by decide +kernel, by decide +kernel, by decide +kernel⟩
theorem ng_x_deck_1_abs : NG sc_x_deck_1 "abs" := ⟨by decide +kernel, by decide +kernel, by decide +kernel⟩
theorem ok_sc_x_deck_1 : BlkOk N_x_deck sc_x_deck usc_x_deck_1 [("_law_cell", 1)] := ⟨rfl, by decide +kernel, by decide +kernel, by decide +kernel, by decide +kernel⟩
noncomputable def E_x_deck_1 : DL.Frame → M D := calF absD [varF 1]
noncomputable def B_x_deck : SM := retF (lstO [cmpO [1] (itF (sliF sliD (varF 0) none (some (cstF (.int 63))))) (tgName 1) (yesF) (E_x_deck_1), cstF (.int 0)])
noncomputable abbrev F_x_deck : List D → M D := defF 2 B_x_deck
theorem ok_x_deck {X : Cx} (c : CxD X N_x_deck sc_x_deck none 0) (G : Gs X.K X.mg) : DSs X W0 B_x_deck (defBody s_x_deck) := DSs_one (DS_ret (DE_lstO (DA_cons (c.cmpo [("_law_cell", 1)] (DI_seq (DE_sli (c.var nl_x_deck_0) DO_none (DO_some (DE_int)))) ok_sc_x_deck_1 (fun _ _ _ _ _ c1 => ⟨c1.tgt nl_x_deck_1_1 (.inl (by decide +kernel)), DTs_nil, c1.blt ng_x_deck_1_abs G.b_abs bt_abs C_abs (DA_cons (c1.var nl_x_deck_1_1) (DA_nil))⟩) (by decide)) (DA_cons (DE_int) (DA_nil)))))
theorem mk_x_deck {P : Program} {w : World} {K : PySem.W.Frag} {mg : Str → Option Value} {base : Heap} {f : Addr} {fd : FuncData} (F : Fun K "_law_deck" "_law_deck" s_x_deck f fd) (hm : mg "_law_deck" = some (.ref f)) (G : Gs K mg) : FnD P w K mg base CX0 1 "_law_deck" 1 [] F_x_deck := by
  have b3 := F.binds (ps := ["_law_script"]) fun _ _ _ _ _ _ us hl => match us, hl with | [_], _ => rfl
  exact ⟨f, fd, ["_law_script"], [], [], hm, F.kp, (fn_body (N := N_x_deck) (ps := ["_law_script"]) (k := 0) F ⟨rfl, rfl, rfl, by decide +kernel, rfl, by decide +kernel, by decide +kernel⟩ (fun X e1 e2 e3 e4 e5 c hx => by subst e1 e2 e3 e4 e5; exact ok_x_deck c G)), b3, .nil, fun _ _ => rfl⟩
/-! ### x_draw -/
abbrev s_x_draw : Stmt := top 9
def N_x_draw : List Str := ["_law_deck_here", "_law_many", "_law_cell", "_law_at", "_law_mixed"]
abbrev sc_x_draw : Scope := defScope s_x_draw
theorem nl_x_draw_0 : NL N_x_draw sc_x_draw 0 "_law_deck_here" := ⟨rfl, by decide +kernel, by decide +kernel, by decide +kernel⟩
theorem nl_x_draw_2 : NL N_x_draw sc_x_draw 2 "_law_cell" := ⟨rfl, by decide +kernel, by decide +kernel, by decide +kernel⟩
theorem nl_x_draw_3 : NL N_x_draw sc_x_draw 3 "_law_at" := ⟨rfl, by decide +kernel, by decide +kernel, by decide +kernel⟩
theorem ng_x_draw_len : NG sc_x_draw "len" := ⟨by decide +kernel, by decide +kernel, by decide +kernel⟩
theorem ng_x_draw_int : NG sc_x_draw "int" := ⟨by decide +kernel, by decide +kernel, by decide +kernel⟩
theorem nl_x_draw_1 : NL N_x_draw sc_x_draw 1 "_law_many" := ⟨rfl, by decide +kernel, by decide +kernel, by decide +kernel⟩
theorem nl_x_draw_4 : NL N_x_draw sc_x_draw 4 "_law_mixed" := ⟨rfl, by decide +kernel, by decide +kernel, by decide +kernel⟩
noncomputable def B_x_draw : SM := seqS (asgG (tgSub (varF 0) (cstF (.int 1))) (binF addD (binF ixD (varF 0) (cstF (.int 1))) (cstF (.int 1)))) (seqS (asgG (tgTup [tgName 2, tgName 3]) (tupF [cstF (.int 0), unF negD (cstF (.int 1))])) (seqS (ifS (tbF (binF gtD (calF lenD [binF ixD (varF 0) (cstF (.int 0))]) (cstF (.int 0)))) (seqS (asgF 3 (binF modD (calF intD [binF ixD (varF 0) (cstF (.int 1))]) (calF lenD [binF ixD (varF 0) (cstF (.int 0))]))) (asgF 2 (binF ixD (binF ixD (varF 0) (cstF (.int 0))) (varF 3)))) (nxF)) (seqS (ifS (tbF (binF geD (varF 2) (binF powD (cstF (.int 10)) (cstF (.int 18))))) (seqS (asgG (tgSub (binF ixD (varF 0) (cstF (.int 0))) (varF 3)) (binF fdivD (calF intD [varF 2]) (varF 1))) (retF (binF modD (calF intD [varF 2]) (varF 1)))) (nxF)) (seqS (asgF 4 (binF addD (binF addD (binF modD (calF intD [varF 2]) (cstF (.int 2147483549))) (binF mulD (cstF (.int 11209)) (binF ixD (varF 0) (cstF (.int 1))))) (cstF (.int 5)))) (retF (binF modD (calF intD [binF modD (calF intD [binF powD (varF 4) (cstF (.int 5))]) (cstF (.int 2147483587))]) (varF 1)))))))
noncomputable abbrev F_x_draw : List D → M D := defF 5 B_x_draw
theorem ok_x_draw {X : Cx} (c : CxD X N_x_draw sc_x_draw none 0) (G : Gs X.K X.mg) : DSs X W0 B_x_draw (defBody s_x_draw) := DSs_cons (DS_asg (DE_bin OpD_add (DE_ix (c.var nl_x_draw_0) (DE_int)) (DE_int)) (DG_sub (W := W0) (c.var nl_x_draw_0) (DE_int))) (DSs_cons (c.asgT (DE_tup (DA_cons (DE_int) (DA_cons (DE_un UnD_neg (DE_int)) (DA_nil)))) (c.tup (DGs_cons (c.tgt nl_x_draw_2 (.inl (by decide +kernel))) (DGs_cons (c.tgt nl_x_draw_3 (.inl (by decide +kernel))) (DGs_nil)))) (by rintro ⟨⟩ h; cases h; rfl)) (DSs_cons (DS_if (DT_cmp OpD_gt (c.blt ng_x_draw_len G.b_len bt_len C_len (DA_cons (DE_ix (c.var nl_x_draw_0) (DE_int)) (DA_nil))) (DE_int)) (DSs_cons (c.set nl_x_draw_3 (.inl (by decide +kernel)) (DE_bin OpD_mod (c.typ ng_x_draw_int G.b_int bt_int C_int (DA_cons (DE_ix (c.var nl_x_draw_0) (DE_int)) (DA_nil))) (c.blt ng_x_draw_len G.b_len bt_len C_len (DA_cons (DE_ix (c.var nl_x_draw_0) (DE_int)) (DA_nil))))) (DSs_one (c.set nl_x_draw_2 (.inl (by decide +kernel)) (DE_ix (DE_ix (c.var nl_x_draw_0) (DE_int)) (c.var nl_x_draw_3))))) (DSs_nil)) (DSs_cons (DS_if (DT_cmp OpD_ge (c.var nl_x_draw_2) (DE_bin OpD_pow (DE_int) (DE_int))) (DSs_cons (DS_asg (DE_bin OpD_fdiv (c.typ ng_x_draw_int G.b_int bt_int C_int (DA_cons (c.var nl_x_draw_2) (DA_nil))) (c.var nl_x_draw_1)) (DG_sub (W := W0) (DE_ix (c.var nl_x_draw_0) (DE_int)) (c.var nl_x_draw_3))) (DSs_one (DS_ret (DE_bin OpD_mod (c.typ ng_x_draw_int G.b_int bt_int C_int (DA_cons (c.var nl_x_draw_2) (DA_nil))) (c.var nl_x_draw_1))))) (DSs_nil)) (DSs_cons (c.set nl_x_draw_4 (.inl (by decide +kernel)) (DE_bin OpD_add (DE_bin OpD_add (DE_bin OpD_mod (c.typ ng_x_draw_int G.b_int bt_int C_int (DA_cons (c.var nl_x_draw_2) (DA_nil))) (DE_int)) (DE_bin OpD_mul (DE_int) (DE_ix (c.var nl_x_draw_0) (DE_int)))) (DE_int))) (DSs_one (DS_ret (DE_bin OpD_mod (c.typ ng_x_draw_int G.b_int bt_int C_int (DA_cons (DE_bin OpD_mod (c.typ ng_x_draw_int G.b_int bt_int C_int (DA_cons (DE_bin OpD_pow (c.var nl_x_draw_4) (DE_int)) (DA_nil))) (DE_int)) (DA_nil))) (c.var nl_x_draw_1))))))))
theorem mk_x_draw {P : Program} {w : World} {K : PySem.W.Frag} {mg : Str → Option Value} {base : Heap} {f : Addr} {fd : FuncData} (F : Fun K "_law_draw" "_law_draw" s_x_draw f fd) (hm : mg "_law_draw" = some (.ref f)) (G : Gs K mg) : FnD P w K mg base CX0 1 "_law_draw" 2 [] F_x_draw := by
  have b3 := F.binds (ps := ["_law_deck_here", "_law_many"]) fun _ _ _ _ _ _ us hl => match us, hl with | [_, _], _ => rfl
  exact ⟨f, fd, ["_law_deck_here", "_law_many"], [], [], hm, F.kp, (fn_body (N := N_x_draw) (ps := ["_law_deck_here", "_law_many"]) (k := 0) F ⟨rfl, rfl, rfl, by decide +kernel, rfl, by decide +kernel, by decide +kernel⟩ (fun X e1 e2 e3 e4 e5 c hx => by subst e1 e2 e3 e4 e5; exact ok_x_draw c G)), b3, .nil, fun _ _ => rfl⟩
/-! ### constant -/
abbrev s_constant : Stmt := top 3
def N_constant : List Str := ["many", "number"]
abbrev sc_constant : Scope := defScope s_constant
theorem nl_constant_1 : NL N_constant sc_constant 1 "number" := ⟨rfl, by decide +kernel, by decide +kernel, by decide +kernel⟩
theorem nl_constant_0 : NL N_constant sc_constant 0 "many" := ⟨rfl, by decide +kernel, by decide +kernel, by decide +kernel⟩
noncomputable def B_constant : SM := retF (iteF (tbF (binF neD (varF 1) (cstF (.int 0)))) (tupP [tupF [binF mulT (tupF [cstF (.int 0)]) (varF 0), varF 1]]) (tupP []))
noncomputable abbrev F_constant : List D → M D := defF 2 B_constant
theorem ok_constant {X : Cx} (c : CxD X N_constant sc_constant none 0) (G : Gs X.K X.mg) : DSs X W0 B_constant (defBody s_constant) := DSs_one (DS_ret (DE_ite (DT_cmp (OpD_ne c.hu) (c.var nl_constant_1) (DE_int)) (DE_tupP (DA_cons (DE_tup (DA_cons (DE_bin OpD_mulT (DE_tup (DA_cons (DE_int) (DA_nil))) (c.var nl_constant_0)) (DA_cons (c.var nl_constant_1) (DA_nil)))) (DA_nil))) (DE_tupP (DA_nil))))
theorem mk_constant {P : Program} {w : World} {K : PySem.W.Frag} {mg : Str → Option Value} {base : Heap} {f : Addr} {fd : FuncData} (F : Fun K "constant" "constant" s_constant f fd) (hm : mg "constant" = some (.ref f)) (G : Gs K mg) : FnD P w K mg base CX0 1 "constant" 2 [] F_constant := by
  have b3 := F.binds (ps := ["many", "number"]) fun _ _ _ _ _ _ us hl => match us, hl with | [_, _], _ => rfl
  exact ⟨f, fd, ["many", "number"], [], [], hm, F.kp, (fn_body (N := N_constant) (ps := ["many", "number"]) (k := 0) F ⟨rfl, rfl, rfl, by decide +kernel, rfl, by decide +kernel, by decide +kernel⟩ (fun X e1 e2 e3 e4 e5 c hx => by subst e1 e2 e3 e4 e5; exact ok_constant c G)), b3, .nil, fun _ _ => rfl⟩
/-! ### x_one -/
abbrev s_x_one : Stmt := top 10
def N_x_one : List Str := ["_law_deck_here", "_law_items"]
abbrev sc_x_one : Scope := defScope s_x_one
theorem nl_x_one_1 : NL N_x_one sc_x_one 1 "_law_items" := ⟨rfl, by decide +kernel, by decide +kernel, by decide +kernel⟩
theorem nl_x_one_0 : NL N_x_one sc_x_one 0 "_law_deck_here" := ⟨rfl, by decide +kernel, by decide +kernel, by decide +kernel⟩
theorem ng_x_one_len : NG sc_x_one "len" := ⟨by decide +kernel, by decide +kernel, by decide +kernel⟩
theorem ng_x_one_x_draw : NG sc_x_one "_law_draw" := ⟨by decide +kernel, by decide +kernel, by decide +kernel⟩
noncomputable def B_x_one : SM := retF (binF ixD (varF 1) (calF (fun xs => F_x_draw (xs ++ [])) [varF 0, calF lenD [varF 1]]))
noncomputable abbrev F_x_one : List D → M D := defF 2 B_x_one
theorem ok_x_one {X : Cx} (c : CxD X N_x_one sc_x_one none 1) (G : Gs X.K X.mg) (h_x_draw : FnD X.prog X.w X.K X.mg X.base CX0 1 "_law_draw" 2 [] F_x_draw) : DSs X W0 B_x_one (defBody s_x_one) := DSs_one (DS_ret (DE_ix (c.var nl_x_one_1) (c.call0 ng_x_one_x_draw h_x_draw (by decide) rfl (DA_cons (c.var nl_x_one_0) (DA_cons (c.blt ng_x_one_len G.b_len bt_len C_len (DA_cons (c.var nl_x_one_1) (DA_nil))) (DA_nil))))))
theorem mk_x_one {P : Program} {w : World} {K : PySem.W.Frag} {mg : Str → Option Value} {base : Heap} {f : Addr} {fd : FuncData} (F : Fun K "_law_one" "_law_one" s_x_one f fd) (hm : mg "_law_one" = some (.ref f)) (G : Gs K mg) (h_x_draw : FnD P w K mg base CX0 1 "_law_draw" 2 [] F_x_draw) : FnD P w K mg base CX0 2 "_law_one" 2 [] F_x_one := by
  have b3 := F.binds (ps := ["_law_deck_here", "_law_items"]) fun _ _ _ _ _ _ us hl => match us, hl with | [_, _], _ => rfl
  exact ⟨f, fd, ["_law_deck_here", "_law_items"], [], [], hm, F.kp, (fn_body (N := N_x_one) (ps := ["_law_deck_here", "_law_items"]) (k := 1) F ⟨rfl, rfl, rfl, by decide +kernel, rfl, by decide +kernel, by decide +kernel⟩ (fun X e1 e2 e3 e4 e5 c hx => by subst e1 e2 e3 e4 e5; exact ok_x_one c G h_x_draw)), b3, .nil, fun _ _ => rfl⟩
/-! ### x_number -/
abbrev s_x_number : Stmt := top 11
def N_x_number : List Str := ["_law_deck_here", "_law_small", "_law_wide"]
abbrev sc_x_number : Scope := defScope s_x_number
theorem nl_x_number_0 : NL N_x_number sc_x_number 0 "_law_deck_here" := ⟨rfl, by decide +kernel, by decide +kernel, by decide +kernel⟩
theorem ng_x_number_x_draw : NG sc_x_number "_law_draw" := ⟨by decide +kernel, by decide +kernel, by decide +kernel⟩
theorem nl_x_number_1 : NL N_x_number sc_x_number 1 "_law_small" := ⟨rfl, by decide +kernel, by decide +kernel, by decide +kernel⟩
theorem nl_x_number_2 : NL N_x_number sc_x_number 2 "_law_wide" := ⟨rfl, by decide +kernel, by decide +kernel, by decide +kernel⟩
theorem ng_x_number_x_one : NG sc_x_number "_law_one" := ⟨by decide +kernel, by decide +kernel, by decide +kernel⟩
noncomputable def B_x_number : SM := seqS (parF [1, 2] [binF subD (calF (fun xs => F_x_draw (xs ++ [])) [varF 0, cstF (.int 19)]) (cstF (.int 9)), binF subD (calF (fun xs => F_x_draw (xs ++ [])) [varF 0, cstF (.int 2001)]) (cstF (.int 1000))]) (retF (calF (fun xs => F_x_one (xs ++ [])) [varF 0, lstF [cstF (.int 0), cstF (.int 1), unF negD (cstF (.int 1)), cstF (.int 2), varF 1, varF 1, varF 2, binF addD (binF powD (cstF (.int 10)) (cstF (.int 20))) (varF 2), binF subD (varF 2) (binF powD (cstF (.int 10)) (cstF (.int 39)))]]))
noncomputable abbrev F_x_number : List D → M D := defF 3 B_x_number
theorem ok_x_number {X : Cx} (c : CxD X N_x_number sc_x_number none 2) (G : Gs X.K X.mg) (h_x_draw : FnD X.prog X.w X.K X.mg X.base CX0 1 "_law_draw" 2 [] F_x_draw) (h_x_one : FnD X.prog X.w X.K X.mg X.base CX0 2 "_law_one" 2 [] F_x_one) : DSs X W0 B_x_number (defBody s_x_number) := DSs_cons (c.par nl_x_number_1 nl_x_number_2 (by decide +kernel) (by decide +kernel) (DA_cons (DE_bin OpD_sub (c.call0 ng_x_number_x_draw h_x_draw (by decide) rfl (DA_cons (c.var nl_x_number_0) (DA_cons (DE_int) (DA_nil)))) (DE_int)) (DA_cons (DE_bin OpD_sub (c.call0 ng_x_number_x_draw h_x_draw (by decide) rfl (DA_cons (c.var nl_x_number_0) (DA_cons (DE_int) (DA_nil)))) (DE_int)) (DA_nil))) (by rintro ⟨⟩ h; cases h; rfl)) (DSs_one (DS_ret (c.call0 ng_x_number_x_one h_x_one (by decide) rfl (DA_cons (c.var nl_x_number_0) (DA_cons (DE_lst (DA_cons (DE_int) (DA_cons (DE_int) (DA_cons (DE_un UnD_neg (DE_int)) (DA_cons (DE_int) (DA_cons (c.var nl_x_number_1) (DA_cons (c.var nl_x_number_1) (DA_cons (c.var nl_x_number_2) (DA_cons (DE_bin OpD_add (DE_bin OpD_pow (DE_int) (DE_int)) (c.var nl_x_number_2)) (DA_cons (DE_bin OpD_sub (c.var nl_x_number_2) (DE_bin OpD_pow (DE_int) (DE_int))) (DA_nil))))))))))) (DA_nil))))))
theorem mk_x_number {P : Program} {w : World} {K : PySem.W.Frag} {mg : Str → Option Value} {base : Heap} {f : Addr} {fd : FuncData} (F : Fun K "_law_number" "_law_number" s_x_number f fd) (hm : mg "_law_number" = some (.ref f)) (G : Gs K mg) (h_x_draw : FnD P w K mg base CX0 1 "_law_draw" 2 [] F_x_draw) (h_x_one : FnD P w K mg base CX0 2 "_law_one" 2 [] F_x_one) : FnD P w K mg base CX0 3 "_law_number" 1 [] F_x_number := by
  have b3 := F.binds (ps := ["_law_deck_here"]) fun _ _ _ _ _ _ us hl => match us, hl with | [_], _ => rfl
  exact ⟨f, fd, ["_law_deck_here"], [], [], hm, F.kp, (fn_body (N := N_x_number) (ps := ["_law_deck_here"]) (k := 2) F ⟨rfl, rfl, rfl, by decide +kernel, rfl, by decide +kernel, by decide +kernel⟩ (fun X e1 e2 e3 e4 e5 c hx => by subst e1 e2 e3 e4 e5; exact ok_x_number c G h_x_draw h_x_one)), b3, .nil, fun _ _ => rfl⟩
/-! ### made -/
abbrev s_made : Stmt := top 1
def N_made : List Str := ["factors", "powers", "factor"]
abbrev sc_made : Scope := defScope s_made
def usc_made_1 : Scope := ⟨.function, [(".0", .local), ("powers", .local), ("factor", .local)], false, false, []⟩
abbrev sc_made_1 : Scope := relS usc_made_1 sc_made
theorem nl_made_1_1 : NL N_made sc_made_1 1 "powers" := ⟨rfl, by decide +kernel, by decide +kernel, by decide +kernel⟩
theorem nl_made_1_2 : NL N_made sc_made_1 2 "factor" := ⟨rfl, by decide +kernel, by decide +kernel, by decide +kernel⟩
theorem nl_made_0 : NL N_made sc_made 0 "factors" := ⟨rfl, by decide +kernel, by decide +kernel, by decide +kernel⟩
theorem ok_sc_made_1 : BlkOk N_made sc_made usc_made_1 [("powers", 1), ("factor", 2)] := ⟨rfl, by decide +kernel, by decide +kernel, by decide +kernel, by decide +kernel⟩
theorem ng_made_sorted : NG sc_made "sorted" := ⟨by decide +kernel, by decide +kernel, by decide +kernel⟩
theorem ng_made_tuple : NG sc_made "tuple" := ⟨by decide +kernel, by decide +kernel, by decide +kernel⟩
noncomputable def E_made_1 : DL.Frame → M D := tupF [varF 1, varF 2]
noncomputable def T_made_1 : DL.Frame → M Bool := tbF (binF neD (varF 2) (cstF (.int 0)))
noncomputable def B_made : SM := retF (calF tupleP [calF sortedX [cmpI [1, 2] 0 (tgTup [tgName 1, tgName 2]) (T_made_1) (E_made_1)]])
noncomputable abbrev F_made : List D → M D := defF 3 B_made
theorem ok_made {X : Cx} (c : CxD X N_made sc_made none 0) (G : Gs X.K X.mg) : DSs X W0 B_made (defBody s_made) := DSs_one (DS_ret (c.typ ng_made_tuple G.b_tuple bt_tuple C_tupleP (DA_cons (c.blt ng_made_sorted G.b_sorted bt_sorted (C_sortedX c.hu) (DA_cons (c.cmpi nl_made_0 [("powers", 1), ("factor", 2)] ok_sc_made_1 (fun _ _ _ _ _ c1 => ⟨c1.tup (DGs_cons (c1.tgt nl_made_1_1 (.inl (by decide +kernel))) (DGs_cons (c1.tgt nl_made_1_2 (.inl (by decide +kernel))) (DGs_nil))), DTs_one (DT_cmp (OpD_ne c1.hu) (c1.var nl_made_1_2) (DE_int)), DE_tup (DA_cons (c1.var nl_made_1_1) (DA_cons (c1.var nl_made_1_2) (DA_nil)))⟩) (by decide)) (DA_nil))) (DA_nil))))
theorem mk_made {P : Program} {w : World} {K : PySem.W.Frag} {mg : Str → Option Value} {base : Heap} {f : Addr} {fd : FuncData} (F : Fun K "made" "made" s_made f fd) (hm : mg "made" = some (.ref f)) (G : Gs K mg) : FnD P w K mg base CX0 1 "made" 1 [] F_made := by
  have b3 := F.binds (ps := ["factors"]) fun _ _ _ _ _ _ us hl => match us, hl with | [_], _ => rfl
  exact ⟨f, fd, ["factors"], [], [], hm, F.kp, (fn_body (N := N_made) (ps := ["factors"]) (k := 0) F ⟨rfl, rfl, rfl, by decide +kernel, rfl, by decide +kernel, by decide +kernel⟩ (fun X e1 e2 e3 e4 e5 c hx => by subst e1 e2 e3 e4 e5; exact ok_made c G)), b3, .nil, fun _ _ => rfl⟩
/-! ### times -/
abbrev s_times : Stmt := top 6
def N_times : List Str := ["one", "another", "factors", "powers", "factor", "more", "other", "both", "a", "b"]
abbrev sc_times : Scope := defScope s_times
def usc_times_1 : Scope := ⟨.function, [(".0", .local), ("a", .local), ("b", .local)], false, false, []⟩
abbrev sc_times_1 : Scope := relS usc_times_1 sc_times
theorem nl_times_2 : NL N_times sc_times 2 "factors" := ⟨rfl, by decide +kernel, by decide +kernel, by decide +kernel⟩
theorem nl_times_0 : NL N_times sc_times 0 "one" := ⟨rfl, by decide +kernel, by decide +kernel, by decide +kernel⟩
theorem nl_times_3 : NL N_times sc_times 3 "powers" := ⟨rfl, by decide +kernel, by decide +kernel, by decide +kernel⟩
theorem nl_times_4 : NL N_times sc_times 4 "factor" := ⟨rfl, by decide +kernel, by decide +kernel, by decide +kernel⟩
theorem nl_times_1 : NL N_times sc_times 1 "another" := ⟨rfl, by decide +kernel, by decide +kernel, by decide +kernel⟩
theorem nl_times_5 : NL N_times sc_times 5 "more" := ⟨rfl, by decide +kernel, by decide +kernel, by decide +kernel⟩
theorem nl_times_6 : NL N_times sc_times 6 "other" := ⟨rfl, by decide +kernel, by decide +kernel, by decide +kernel⟩
theorem ng_times_zip : NG sc_times "zip" := ⟨by decide +kernel, by decide +kernel, by decide +kernel⟩
theorem nl_times_1_8 : NL N_times sc_times_1 8 "a" := ⟨rfl, by decide +kernel, by decide +kernel, by decide +kernel⟩
theorem nl_times_1_9 : NL N_times sc_times_1 9 "b" := ⟨rfl, by decide +kernel, by decide +kernel, by decide +kernel⟩
theorem ok_sc_times_1 : BlkOk N_times sc_times usc_times_1 [("a", 8), ("b", 9)] := ⟨rfl, by decide +kernel, by decide +kernel, by decide +kernel, by decide +kernel⟩
theorem ng_times_tuple : NG sc_times "tuple" := ⟨by decide +kernel, by decide +kernel, by decide +kernel⟩
theorem nl_times_7 : NL N_times sc_times 7 "both" := ⟨rfl, by decide +kernel, by decide +kernel, by decide +kernel⟩
theorem ng_times_made : NG sc_times "made" := ⟨by decide +kernel, by decide +kernel, by decide +kernel⟩
noncomputable def E_times_1 : DL.Frame → M D := binF addD (varF 8) (varF 9)
noncomputable def L_times_2 : SM := seqS (asgF 7 (calF tupleD [cmpD [8, 9] (rngF zipS [varF 3, varF 5]) (tgTup [tgName 8, tgName 9]) (yesF) (E_times_1)])) (asgG (tgDic (varF 2) (varF 7)) (binF addD (getF (varF 2) (varF 7) (cstF (.int 0))) (binF mulD (varF 4) (varF 6))))
noncomputable def L_times_1 : SM := forF (itF (varF 1)) (tgTup [tgName 5, tgName 6]) (L_times_2)
noncomputable def B_times : SM := seqS (asgF 2 (dctT)) (seqS (forF (itF (varF 0)) (tgTup [tgName 3, tgName 4]) (L_times_1)) (retF (calF (fun xs => F_made (xs ++ [])) [varF 2])))
noncomputable abbrev F_times : List D → M D := defF 10 B_times
theorem ok_times {X : Cx} (c : CxD X N_times sc_times none 1) (G : Gs X.K X.mg) (h_made : FnD X.prog X.w X.K X.mg X.base CX0 1 "made" 1 [] F_made) : DSs X W0 B_times (defBody s_times) := DSs_cons (c.set nl_times_2 (.inl (by decide +kernel)) (DE_dctT)) (DSs_cons (c.for_ (DI_seq (c.var nl_times_0)) (c.tup (DGs_cons (c.tgt nl_times_3 (.inl (by decide +kernel))) (DGs_cons (c.tgt nl_times_4 (.inl (by decide +kernel))) (DGs_nil)))) (DSs_one (c.for_ (DI_seq (c.var nl_times_1)) (c.tup (DGs_cons (c.tgt nl_times_5 (.inl (by decide +kernel))) (DGs_cons (c.tgt nl_times_6 (.inl (by decide +kernel))) (DGs_nil)))) (DSs_cons (c.set nl_times_7 (.inl (by decide +kernel)) (c.typ ng_times_tuple G.b_tuple bt_tuple C_tuple (DA_cons (c.cmp [("a", 8), ("b", 9)] (DI_zip (c.gl ng_times_zip) G.b_zip (DA_cons (c.var nl_times_3) (DA_cons (c.var nl_times_5) (DA_nil)))) ok_sc_times_1 (fun _ _ _ _ _ c1 => ⟨c1.tup (DGs_cons (c1.tgt nl_times_1_8 (.inl (by decide +kernel))) (DGs_cons (c1.tgt nl_times_1_9 (.inl (by decide +kernel))) (DGs_nil))), DTs_nil, DE_bin OpD_add (c1.var nl_times_1_8) (c1.var nl_times_1_9)⟩) (by decide)) (DA_nil)))) (DSs_one (DS_asg (DE_bin OpD_add (DE_get c.hu (c.var nl_times_2) (c.var nl_times_7) (DE_int)) (DE_bin OpD_mul (c.var nl_times_4) (c.var nl_times_6))) (DG_dic (W := W0) c.hu (c.var nl_times_2) (c.var nl_times_7)))))))) (DSs_one (DS_ret (c.call0 ng_times_made h_made (by decide) rfl (DA_cons (c.var nl_times_2) (DA_nil))))))
theorem mk_times {P : Program} {w : World} {K : PySem.W.Frag} {mg : Str → Option Value} {base : Heap} {f : Addr} {fd : FuncData} (F : Fun K "times" "times" s_times f fd) (hm : mg "times" = some (.ref f)) (G : Gs K mg) (h_made : FnD P w K mg base CX0 1 "made" 1 [] F_made) : FnD P w K mg base CX0 2 "times" 2 [] F_times := by
  have b3 := F.binds (ps := ["one", "another"]) fun _ _ _ _ _ _ us hl => match us, hl with | [_, _], _ => rfl
  exact ⟨f, fd, ["one", "another"], [], [], hm, F.kp, (fn_body (N := N_times) (ps := ["one", "another"]) (k := 1) F ⟨rfl, rfl, rfl, by decide +kernel, rfl, by decide +kernel, by decide +kernel⟩ (fun X e1 e2 e3 e4 e5 c hx => by subst e1 e2 e3 e4 e5; exact ok_times c G h_made)), b3, .nil, fun _ _ => rfl⟩
/-! ### unknown -/
abbrev s_unknown : Stmt := top 2
def N_unknown : List Str := ["many", "index", "at"]
abbrev sc_unknown : Scope := defScope s_unknown
def usc_unknown_1 : Scope := ⟨.function, [(".0", .local), ("at", .local), ("int", .globalImplicit), ("index", .free)], false, false, []⟩
abbrev sc_unknown_1 : Scope := relS usc_unknown_1 sc_unknown
theorem nl_unknown_0 : NL N_unknown sc_unknown 0 "many" := ⟨rfl, by decide +kernel, by decide +kernel, by decide +kernel⟩
theorem ng_unknown_range : NG sc_unknown "range" := ⟨by decide +kernel, by decide +kernel, by decide +kernel⟩
theorem nl_unknown_1_2 : NL N_unknown sc_unknown_1 2 "at" := ⟨rfl, by decide +kernel, by decide +kernel, by decide +kernel⟩
theorem nl_unknown_1_1 : NL N_unknown sc_unknown_1 1 "index" := ⟨rfl, by decide +kernel, by decide +kernel, by decide +kernel⟩
theorem ng_unknown_1_int : NG sc_unknown_1 "int" := ⟨by decide +kernel, by decide +kernel, by decide +kernel⟩
theorem ok_sc_unknown_1 : BlkOk N_unknown sc_unknown usc_unknown_1 [("at", 2)] := ⟨rfl, by decide +kernel, by decide +kernel, by decide +kernel, by decide +kernel⟩
theorem ng_unknown_tuple : NG sc_unknown "tuple" := ⟨by decide +kernel, by decide +kernel, by decide +kernel⟩
noncomputable def E_unknown_1 : DL.Frame → M D := calF intD [binF eqD (varF 2) (varF 1)]
noncomputable def B_unknown : SM := retF (tupP [tupF [calF tupleD [cmpD [2] (rngF rng1 [varF 0]) (tgName 2) (yesF) (E_unknown_1)], cstF (.int 1)]])
noncomputable abbrev F_unknown : List D → M D := defF 3 B_unknown
theorem ok_unknown {X : Cx} (c : CxD X N_unknown sc_unknown none 0) (G : Gs X.K X.mg) : DSs X W0 B_unknown (defBody s_unknown) := DSs_one (DS_ret (DE_tupP (DA_cons (DE_tup (DA_cons (c.typ ng_unknown_tuple G.b_tuple bt_tuple C_tuple (DA_cons (c.cmp [("at", 2)] (c.rng1 ng_unknown_range G.b_range (DA_cons (c.var nl_unknown_0) (DA_nil))) ok_sc_unknown_1 (fun _ _ _ _ _ c1 => ⟨c1.tgt nl_unknown_1_2 (.inl (by decide +kernel)), DTs_nil, c1.typ ng_unknown_1_int G.b_int bt_int C_int (DA_cons (DE_cmp (OpD_eq c1.hu) (c1.var nl_unknown_1_2) (c1.var nl_unknown_1_1)) (DA_nil))⟩) (by decide)) (DA_nil))) (DA_cons (DE_int) (DA_nil)))) (DA_nil))))
theorem mk_unknown {P : Program} {w : World} {K : PySem.W.Frag} {mg : Str → Option Value} {base : Heap} {f : Addr} {fd : FuncData} (F : Fun K "unknown" "unknown" s_unknown f fd) (hm : mg "unknown" = some (.ref f)) (G : Gs K mg) : FnD P w K mg base CX0 1 "unknown" 2 [] F_unknown := by
  have b3 := F.binds (ps := ["many", "index"]) fun _ _ _ _ _ _ us hl => match us, hl with | [_, _], _ => rfl
  exact ⟨f, fd, ["many", "index"], [], [], hm, F.kp, (fn_body (N := N_unknown) (ps := ["many", "index"]) (k := 0) F ⟨rfl, rfl, rfl, by decide +kernel, rfl, by decide +kernel, by decide +kernel⟩ (fun X e1 e2 e3 e4 e5 c hx => by subst e1 e2 e3 e4 e5; exact ok_unknown c G)), b3, .nil, fun _ _ => rfl⟩
/-! ### plus -/
abbrev s_plus : Stmt := top 4
def N_plus : List Str := ["one", "another", "factors", "powers", "factor"]
abbrev sc_plus : Scope := defScope s_plus
theorem nl_plus_0 : NL N_plus sc_plus 0 "one" := ⟨rfl, by decide +kernel, by decide +kernel, by decide +kernel⟩
theorem ng_plus_dict : NG sc_plus "dict" := ⟨by decide +kernel, by decide +kernel, by decide +kernel⟩
theorem nl_plus_2 : NL N_plus sc_plus 2 "factors" := ⟨rfl, by decide +kernel, by decide +kernel, by decide +kernel⟩
theorem nl_plus_1 : NL N_plus sc_plus 1 "another" := ⟨rfl, by decide +kernel, by decide +kernel, by decide +kernel⟩
theorem nl_plus_3 : NL N_plus sc_plus 3 "powers" := ⟨rfl, by decide +kernel, by decide +kernel, by decide +kernel⟩
theorem nl_plus_4 : NL N_plus sc_plus 4 "factor" := ⟨rfl, by decide +kernel, by decide +kernel, by decide +kernel⟩
theorem ng_plus_made : NG sc_plus "made" := ⟨by decide +kernel, by decide +kernel, by decide +kernel⟩
noncomputable def L_plus_1 : SM := asgG (tgDic (varF 2) (varF 3)) (binF addD (getF (varF 2) (varF 3) (cstF (.int 0))) (varF 4))
noncomputable def B_plus : SM := seqS (asgF 2 (calF dictD [varF 0])) (seqS (forF (itF (varF 1)) (tgTup [tgName 3, tgName 4]) (L_plus_1)) (retF (calF (fun xs => F_made (xs ++ [])) [varF 2])))
noncomputable abbrev F_plus : List D → M D := defF 5 B_plus
theorem ok_plus {X : Cx} (c : CxD X N_plus sc_plus none 1) (G : Gs X.K X.mg) (h_made : FnD X.prog X.w X.K X.mg X.base CX0 1 "made" 1 [] F_made) : DSs X W0 B_plus (defBody s_plus) := DSs_cons (c.set nl_plus_2 (.inl (by decide +kernel)) (c.typ ng_plus_dict G.b_dict bt_dict (C_dict c.calm c.hu) (DA_cons (c.var nl_plus_0) (DA_nil)))) (DSs_cons (c.for_ (DI_seq (c.var nl_plus_1)) (c.tup (DGs_cons (c.tgt nl_plus_3 (.inl (by decide +kernel))) (DGs_cons (c.tgt nl_plus_4 (.inl (by decide +kernel))) (DGs_nil)))) (DSs_one (DS_asg (DE_bin OpD_add (DE_get c.hu (c.var nl_plus_2) (c.var nl_plus_3) (DE_int)) (c.var nl_plus_4)) (DG_dic (W := W0) c.hu (c.var nl_plus_2) (c.var nl_plus_3))))) (DSs_one (DS_ret (c.call0 ng_plus_made h_made (by decide) rfl (DA_cons (c.var nl_plus_2) (DA_nil))))))
theorem mk_plus {P : Program} {w : World} {K : PySem.W.Frag} {mg : Str → Option Value} {base : Heap} {f : Addr} {fd : FuncData} (F : Fun K "plus" "plus" s_plus f fd) (hm : mg "plus" = some (.ref f)) (G : Gs K mg) (h_made : FnD P w K mg base CX0 1 "made" 1 [] F_made) : FnD P w K mg base CX0 2 "plus" 2 [] F_plus := by
  have b3 := F.binds (ps := ["one", "another"]) fun _ _ _ _ _ _ us hl => match us, hl with | [_, _], _ => rfl
  exact ⟨f, fd, ["one", "another"], [], [], hm, F.kp, (fn_body (N := N_plus) (ps := ["one", "another"]) (k := 1) F ⟨rfl, rfl, rfl, by decide +kernel, rfl, by decide +kernel, by decide +kernel⟩ (fun X e1 e2 e3 e4 e5 c hx => by subst e1 e2 e3 e4 e5; exact ok_plus c G h_made)), b3, .nil, fun _ _ => rfl⟩
/-! ### x_poly -/
abbrev s_x_poly : Stmt := top 14
def N_x_poly : List Str := ["_law_deck_here", "_law_many", "_law_found", "_law_k", "_law_part", "_law_lap"]
abbrev sc_x_poly : Scope := defScope s_x_poly
theorem nl_x_poly_1 : NL N_x_poly sc_x_poly 1 "_law_many" := ⟨rfl, by decide +kernel, by decide +kernel, by decide +kernel⟩
theorem ng_x_poly_constant : NG sc_x_poly "constant" := ⟨by decide +kernel, by decide +kernel, by decide +kernel⟩
theorem nl_x_poly_2 : NL N_x_poly sc_x_poly 2 "_law_found" := ⟨rfl, by decide +kernel, by decide +kernel, by decide +kernel⟩
theorem nl_x_poly_0 : NL N_x_poly sc_x_poly 0 "_law_deck_here" := ⟨rfl, by decide +kernel, by decide +kernel, by decide +kernel⟩
theorem ng_x_poly_x_draw : NG sc_x_poly "_law_draw" := ⟨by decide +kernel, by decide +kernel, by decide +kernel⟩
theorem ng_x_poly_range : NG sc_x_poly "range" := ⟨by decide +kernel, by decide +kernel, by decide +kernel⟩
theorem nl_x_poly_3 : NL N_x_poly sc_x_poly 3 "_law_k" := ⟨rfl, by decide +kernel, by decide +kernel, by decide +kernel⟩
theorem ng_x_poly_x_number : NG sc_x_poly "_law_number" := ⟨by decide +kernel, by decide +kernel, by decide +kernel⟩
theorem ng_x_poly_x_one : NG sc_x_poly "_law_one" := ⟨by decide +kernel, by decide +kernel, by decide +kernel⟩
theorem nl_x_poly_4 : NL N_x_poly sc_x_poly 4 "_law_part" := ⟨rfl, by decide +kernel, by decide +kernel, by decide +kernel⟩
theorem nl_x_poly_5 : NL N_x_poly sc_x_poly 5 "_law_lap" := ⟨rfl, by decide +kernel, by decide +kernel, by decide +kernel⟩
theorem ng_x_poly_unknown : NG sc_x_poly "unknown" := ⟨by decide +kernel, by decide +kernel, by decide +kernel⟩
theorem ng_x_poly_times : NG sc_x_poly "times" := ⟨by decide +kernel, by decide +kernel, by decide +kernel⟩
theorem ng_x_poly_plus : NG sc_x_poly "plus" := ⟨by decide +kernel, by decide +kernel, by decide +kernel⟩
noncomputable def L_x_poly_2 : SM := asgF 4 (calF (fun xs => F_times (xs ++ [])) [varF 4, calF (fun xs => F_unknown (xs ++ [])) [varF 1, calF (fun xs => F_x_draw (xs ++ [])) [varF 0, varF 1]]])
noncomputable def L_x_poly_1 : SM := seqS (asgF 4 (calF (fun xs => F_constant (xs ++ [])) [varF 1, calF (fun xs => F_x_one (xs ++ [])) [varF 0, lstF [cstF (.int 1), unF negD (cstF (.int 1)), cstF (.int 2), calF (fun xs => F_x_number (xs ++ [])) [varF 0]]]])) (seqS (forF (rngF rng1 [calF (fun xs => F_x_draw (xs ++ [])) [varF 0, cstF (.int 4)]]) (tgName 5) (L_x_poly_2)) (asgF 2 (calF (fun xs => F_plus (xs ++ [])) [varF 2, varF 4])))
noncomputable def B_x_poly : SM := seqS (asgF 2 (calF (fun xs => F_constant (xs ++ [])) [varF 1, cstF (.int 0)])) (seqS (forF (rngF rng1 [calF (fun xs => F_x_draw (xs ++ [])) [varF 0, cstF (.int 6)]]) (tgName 3) (L_x_poly_1)) (retF (varF 2)))
noncomputable abbrev F_x_poly : List D → M D := defF 6 B_x_poly
theorem ok_x_poly {X : Cx} (c : CxD X N_x_poly sc_x_poly none 3) (G : Gs X.K X.mg) (h_constant : FnD X.prog X.w X.K X.mg X.base CX0 1 "constant" 2 [] F_constant) (h_x_draw : FnD X.prog X.w X.K X.mg X.base CX0 1 "_law_draw" 2 [] F_x_draw) (h_x_one : FnD X.prog X.w X.K X.mg X.base CX0 2 "_law_one" 2 [] F_x_one) (h_x_number : FnD X.prog X.w X.K X.mg X.base CX0 3 "_law_number" 1 [] F_x_number) (h_times : FnD X.prog X.w X.K X.mg X.base CX0 2 "times" 2 [] F_times) (h_unknown : FnD X.prog X.w X.K X.mg X.base CX0 1 "unknown" 2 [] F_unknown) (h_plus : FnD X.prog X.w X.K X.mg X.base CX0 2 "plus" 2 [] F_plus) : DSs X W0 B_x_poly (defBody s_x_poly) := DSs_cons (c.set nl_x_poly_2 (.inl (by decide +kernel)) (c.call0 ng_x_poly_constant h_constant (by decide) rfl (DA_cons (c.var nl_x_poly_1) (DA_cons (DE_int) (DA_nil))))) (DSs_cons (c.for_ (c.rng1 ng_x_poly_range G.b_range (DA_cons (c.call0 ng_x_poly_x_draw h_x_draw (by decide) rfl (DA_cons (c.var nl_x_poly_0) (DA_cons (DE_int) (DA_nil)))) (DA_nil))) (c.tgt nl_x_poly_3 (.inl (by decide +kernel))) (DSs_cons (c.set nl_x_poly_4 (.inl (by decide +kernel)) (c.call0 ng_x_poly_constant h_constant (by decide) rfl (DA_cons (c.var nl_x_poly_1) (DA_cons (c.call0 ng_x_poly_x_one h_x_one (by decide) rfl (DA_cons (c.var nl_x_poly_0) (DA_cons (DE_lst (DA_cons (DE_int) (DA_cons (DE_un UnD_neg (DE_int)) (DA_cons (DE_int) (DA_cons (c.call0 ng_x_poly_x_number h_x_number (by decide) rfl (DA_cons (c.var nl_x_poly_0) (DA_nil))) (DA_nil)))))) (DA_nil)))) (DA_nil))))) (DSs_cons (c.for_ (c.rng1 ng_x_poly_range G.b_range (DA_cons (c.call0 ng_x_poly_x_draw h_x_draw (by decide) rfl (DA_cons (c.var nl_x_poly_0) (DA_cons (DE_int) (DA_nil)))) (DA_nil))) (c.tgt nl_x_poly_5 (.inl (by decide +kernel))) (DSs_one (c.set nl_x_poly_4 (.inl (by decide +kernel)) (c.call0 ng_x_poly_times h_times (by decide) rfl (DA_cons (c.var nl_x_poly_4) (DA_cons (c.call0 ng_x_poly_unknown h_unknown (by decide) rfl (DA_cons (c.var nl_x_poly_1) (DA_cons (c.call0 ng_x_poly_x_draw h_x_draw (by decide) rfl (DA_cons (c.var nl_x_poly_0) (DA_cons (c.var nl_x_poly_1) (DA_nil)))) (DA_nil)))) (DA_nil))))))) (DSs_one (c.set nl_x_poly_2 (.inl (by decide +kernel)) (c.call0 ng_x_poly_plus h_plus (by decide) rfl (DA_cons (c.var nl_x_poly_2) (DA_cons (c.var nl_x_poly_4) (DA_nil))))))))) (DSs_one (DS_ret (c.var nl_x_poly_2))))
theorem mk_x_poly {P : Program} {w : World} {K : PySem.W.Frag} {mg : Str → Option Value} {base : Heap} {f : Addr} {fd : FuncData} (F : Fun K "_law_poly" "_law_poly" s_x_poly f fd) (hm : mg "_law_poly" = some (.ref f)) (G : Gs K mg) (h_constant : FnD P w K mg base CX0 1 "constant" 2 [] F_constant) (h_x_draw : FnD P w K mg base CX0 1 "_law_draw" 2 [] F_x_draw) (h_x_one : FnD P w K mg base CX0 2 "_law_one" 2 [] F_x_one) (h_x_number : FnD P w K mg base CX0 3 "_law_number" 1 [] F_x_number) (h_times : FnD P w K mg base CX0 2 "times" 2 [] F_times) (h_unknown : FnD P w K mg base CX0 1 "unknown" 2 [] F_unknown) (h_plus : FnD P w K mg base CX0 2 "plus" 2 [] F_plus) : FnD P w K mg base CX0 4 "_law_poly" 2 [] F_x_poly := by
  have b3 := F.binds (ps := ["_law_deck_here", "_law_many"]) fun _ _ _ _ _ _ us hl => match us, hl with | [_, _], _ => rfl
  exact ⟨f, fd, ["_law_deck_here", "_law_many"], [], [], hm, F.kp, (fn_body (N := N_x_poly) (ps := ["_law_deck_here", "_law_many"]) (k := 3) F ⟨rfl, rfl, rfl, by decide +kernel, rfl, by decide +kernel, by decide +kernel⟩ (fun X e1 e2 e3 e4 e5 c hx => by subst e1 e2 e3 e4 e5; exact ok_x_poly c G h_constant h_x_draw h_x_one h_x_number h_times h_unknown h_plus)), b3, .nil, fun _ _ => rfl⟩
/-! ### minus -/
abbrev s_minus : Stmt := top 5
def N_minus : List Str := ["one", "another", "powers", "factor"]
abbrev sc_minus : Scope := defScope s_minus
def usc_minus_1 : Scope := ⟨.function, [(".0", .local), ("powers", .local), ("factor", .local)], false, false, []⟩
abbrev sc_minus_1 : Scope := relS usc_minus_1 sc_minus
theorem nl_minus_0 : NL N_minus sc_minus 0 "one" := ⟨rfl, by decide +kernel, by decide +kernel, by decide +kernel⟩
theorem nl_minus_1 : NL N_minus sc_minus 1 "another" := ⟨rfl, by decide +kernel, by decide +kernel, by decide +kernel⟩
theorem nl_minus_1_2 : NL N_minus sc_minus_1 2 "powers" := ⟨rfl, by decide +kernel, by decide +kernel, by decide +kernel⟩
theorem nl_minus_1_3 : NL N_minus sc_minus_1 3 "factor" := ⟨rfl, by decide +kernel, by decide +kernel, by decide +kernel⟩
theorem ok_sc_minus_1 : BlkOk N_minus sc_minus usc_minus_1 [("powers", 2), ("factor", 3)] := ⟨rfl, by decide +kernel, by decide +kernel, by decide +kernel, by decide +kernel⟩
theorem ng_minus_tuple : NG sc_minus "tuple" := ⟨by decide +kernel, by decide +kernel, by decide +kernel⟩
theorem ng_minus_plus : NG sc_minus "plus" := ⟨by decide +kernel, by decide +kernel, by decide +kernel⟩
noncomputable def E_minus_1 : DL.Frame → M D := tupF [varF 2, binF subD (cstF (.int 0)) (varF 3)]
noncomputable def B_minus : SM := retF (calF (fun xs => F_plus (xs ++ [])) [varF 0, calF tupleD [cmpD [2, 3] (itF (varF 1)) (tgTup [tgName 2, tgName 3]) (yesF) (E_minus_1)]])
noncomputable abbrev F_minus : List D → M D := defF 4 B_minus
theorem ok_minus {X : Cx} (c : CxD X N_minus sc_minus none 2) (G : Gs X.K X.mg) (h_plus : FnD X.prog X.w X.K X.mg X.base CX0 2 "plus" 2 [] F_plus) : DSs X W0 B_minus (defBody s_minus) := DSs_one (DS_ret (c.call0 ng_minus_plus h_plus (by decide) rfl (DA_cons (c.var nl_minus_0) (DA_cons (c.typ ng_minus_tuple G.b_tuple bt_tuple C_tuple (DA_cons (c.cmp [("powers", 2), ("factor", 3)] (DI_seq (c.var nl_minus_1)) ok_sc_minus_1 (fun _ _ _ _ _ c1 => ⟨c1.tup (DGs_cons (c1.tgt nl_minus_1_2 (.inl (by decide +kernel))) (DGs_cons (c1.tgt nl_minus_1_3 (.inl (by decide +kernel))) (DGs_nil))), DTs_nil, DE_tup (DA_cons (c1.var nl_minus_1_2) (DA_cons (DE_bin OpD_sub (DE_int) (c1.var nl_minus_1_3)) (DA_nil)))⟩) (by decide)) (DA_nil))) (DA_nil)))))
theorem mk_minus {P : Program} {w : World} {K : PySem.W.Frag} {mg : Str → Option Value} {base : Heap} {f : Addr} {fd : FuncData} (F : Fun K "minus" "minus" s_minus f fd) (hm : mg "minus" = some (.ref f)) (G : Gs K mg) (h_plus : FnD P w K mg base CX0 2 "plus" 2 [] F_plus) : FnD P w K mg base CX0 3 "minus" 2 [] F_minus := by
  have b3 := F.binds (ps := ["one", "another"]) fun _ _ _ _ _ _ us hl => match us, hl with | [_, _], _ => rfl
  exact ⟨f, fd, ["one", "another"], [], [], hm, F.kp, (fn_body (N := N_minus) (ps := ["one", "another"]) (k := 2) F ⟨rfl, rfl, rfl, by decide +kernel, rfl, by decide +kernel, by decide +kernel⟩ (fun X e1 e2 e3 e4 e5 c hx => by subst e1 e2 e3 e4 e5; exact ok_minus c G h_plus)), b3, .nil, fun _ _ => rfl⟩
/-! ### x_is_whole -/
abbrev s_x_is_whole : Stmt := top 12
def N_x_is_whole : List Str := ["_law_thing", "_law_least"]
abbrev sc_x_is_whole : Scope := defScope s_x_is_whole
theorem nl_x_is_whole_0 : NL N_x_is_whole sc_x_is_whole 0 "_law_thing" := ⟨rfl, by decide +kernel, by decide +kernel, by decide +kernel⟩
theorem ng_x_is_whole_isinstance : NG sc_x_is_whole "isinstance" := ⟨by decide +kernel, by decide +kernel, by decide +kernel⟩
theorem ng_x_is_whole_int : NG sc_x_is_whole "int" := ⟨by decide +kernel, by decide +kernel, by decide +kernel⟩
theorem ng_x_is_whole_bool : NG sc_x_is_whole "bool" := ⟨by decide +kernel, by decide +kernel, by decide +kernel⟩
theorem nl_x_is_whole_1 : NL N_x_is_whole sc_x_is_whole 1 "_law_least" := ⟨rfl, by decide +kernel, by decide +kernel, by decide +kernel⟩
noncomputable def B_x_is_whole : SM := retF (andV (unF (isiD "int") (varF 0)) (andV (notV (unF (isiD "bool") (varF 0))) (binF geD (varF 0) (varF 1))))
noncomputable abbrev F_x_is_whole : List D → M D := defF 2 B_x_is_whole
theorem ok_x_is_whole {X : Cx} (c : CxD X N_x_is_whole sc_x_is_whole none 0) (G : Gs X.K X.mg) : DSs X W0 B_x_is_whole (defBody s_x_is_whole) := DSs_one (DS_ret (DE_and (c.isi ng_x_is_whole_isinstance ng_x_is_whole_int G.b_isinstance G.b_int (c.var nl_x_is_whole_0) bt_int) (DE_and (DE_not (c.isi ng_x_is_whole_isinstance ng_x_is_whole_bool G.b_isinstance G.b_bool (c.var nl_x_is_whole_0) bt_bool)) (DE_one (DE_cmp OpD_ge (c.var nl_x_is_whole_0) (c.var nl_x_is_whole_1))))))
theorem mk_x_is_whole {P : Program} {w : World} {K : PySem.W.Frag} {mg : Str → Option Value} {base : Heap} {f : Addr} {fd : FuncData} (F : Fun K "_law_is_whole" "_law_is_whole" s_x_is_whole f fd) (hm : mg "_law_is_whole" = some (.ref f)) (G : Gs K mg) : FnD P w K mg base CX0 1 "_law_is_whole" 2 [] F_x_is_whole := by
  have b3 := F.binds (ps := ["_law_thing", "_law_least"]) fun _ _ _ _ _ _ us hl => match us, hl with | [_, _], _ => rfl
  exact ⟨f, fd, ["_law_thing", "_law_least"], [], [], hm, F.kp, (fn_body (N := N_x_is_whole) (ps := ["_law_thing", "_law_least"]) (k := 0) F ⟨rfl, rfl, rfl, by decide +kernel, rfl, by decide +kernel, by decide +kernel⟩ (fun X e1 e2 e3 e4 e5 c hx => by subst e1 e2 e3 e4 e5; exact ok_x_is_whole c G)), b3, .nil, fun _ _ => rfl⟩
/-! ### x_is_poly -/
abbrev s_x_is_poly : Stmt := top 13
def N_x_is_poly : List Str := ["_law_thing", "_law_many", "_law_pair", "_law_powers", "_law_k", "_law_power"]
abbrev sc_x_is_poly : Scope := defScope s_x_is_poly
def usc_x_is_poly_1 : Scope := ⟨.function, [(".0", .local), ("_law_power", .local), ("_law_is_whole", .globalImplicit)], false, false, []⟩
abbrev sc_x_is_poly_1 : Scope := relS usc_x_is_poly_1 sc_x_is_poly
def usc_x_is_poly_2 : Scope := ⟨.function, [(".0", .local), ("_law_pair", .local)], false, false, []⟩
abbrev sc_x_is_poly_2 : Scope := relS usc_x_is_poly_2 sc_x_is_poly
def usc_x_is_poly_3 : Scope := ⟨.function, [(".0", .local), ("_law_k", .local), ("_law_powers", .free)], false, false, []⟩
abbrev sc_x_is_poly_3 : Scope := relS usc_x_is_poly_3 sc_x_is_poly
theorem nl_x_is_poly_0 : NL N_x_is_poly sc_x_is_poly 0 "_law_thing" := ⟨rfl, by decide +kernel, by decide +kernel, by decide +kernel⟩
theorem ng_x_is_poly_isinstance : NG sc_x_is_poly "isinstance" := ⟨by decide +kernel, by decide +kernel, by decide +kernel⟩
theorem ng_x_is_poly_tuple : NG sc_x_is_poly "tuple" := ⟨by decide +kernel, by decide +kernel, by decide +kernel⟩
theorem nl_x_is_poly_2 : NL N_x_is_poly sc_x_is_poly 2 "_law_pair" := ⟨rfl, by decide +kernel, by decide +kernel, by decide +kernel⟩
theorem ng_x_is_poly_len : NG sc_x_is_poly "len" := ⟨by decide +kernel, by decide +kernel, by decide +kernel⟩
theorem nl_x_is_poly_1 : NL N_x_is_poly sc_x_is_poly 1 "_law_many" := ⟨rfl, by decide +kernel, by decide +kernel, by decide +kernel⟩
theorem nl_x_is_poly_1_5 : NL N_x_is_poly sc_x_is_poly_1 5 "_law_power" := ⟨rfl, by decide +kernel, by decide +kernel, by decide +kernel⟩
theorem ng_x_is_poly_1_x_is_whole : NG sc_x_is_poly_1 "_law_is_whole" := ⟨by decide +kernel, by decide +kernel, by decide +kernel⟩
theorem ok_sc_x_is_poly_1 : BlkOk N_x_is_poly sc_x_is_poly usc_x_is_poly_1 [("_law_power", 5)] := ⟨rfl, by decide +kernel, by decide +kernel, by decide +kernel, by decide +kernel⟩
theorem ng_x_is_poly_int : NG sc_x_is_poly "int" := ⟨by decide +kernel, by decide +kernel, by decide +kernel⟩
theorem ng_x_is_poly_bool : NG sc_x_is_poly "bool" := ⟨by decide +kernel, by decide +kernel, by decide +kernel⟩
theorem nl_x_is_poly_2_2 : NL N_x_is_poly sc_x_is_poly_2 2 "_law_pair" := ⟨rfl, by decide +kernel, by decide +kernel, by decide +kernel⟩
theorem ok_sc_x_is_poly_2 : BlkOk N_x_is_poly sc_x_is_poly usc_x_is_poly_2 [("_law_pair", 2)] := ⟨rfl, by decide +kernel, by decide +kernel, by decide +kernel, by decide +kernel⟩
theorem nl_x_is_poly_3 : NL N_x_is_poly sc_x_is_poly 3 "_law_powers" := ⟨rfl, by decide +kernel, by decide +kernel, by decide +kernel⟩
theorem ng_x_is_poly_range : NG sc_x_is_poly "range" := ⟨by decide +kernel, by decide +kernel, by decide +kernel⟩
theorem nl_x_is_poly_3_4 : NL N_x_is_poly sc_x_is_poly_3 4 "_law_k" := ⟨rfl, by decide +kernel, by decide +kernel, by decide +kernel⟩
theorem nl_x_is_poly_3_3 : NL N_x_is_poly sc_x_is_poly_3 3 "_law_powers" := ⟨rfl, by decide +kernel, by decide +kernel, by decide +kernel⟩
theorem ok_sc_x_is_poly_3 : BlkOk N_x_is_poly sc_x_is_poly usc_x_is_poly_3 [("_law_k", 4)] := ⟨rfl, by decide +kernel, by decide +kernel, by decide +kernel, by decide +kernel⟩
noncomputable def E_x_is_poly_1 : DL.Frame → M D := varF 5
noncomputable def T_x_is_poly_1 : DL.Frame → M Bool := notF (tstF (calF (fun xs => F_x_is_whole (xs ++ [])) [varF 5, cstF (.int 0)]))
noncomputable def L_x_is_poly_1 : SM := seqS (ifS (orF (notF (tstF (unF (isiD "tuple") (varF 2)))) (orF (tbF (binF neD (calF lenD [varF 2]) (cstF (.int 2)))) (orF (notF (tstF (unF (isiD "tuple") (binF ixD (varF 2) (cstF (.int 0)))))) (tbF (binF neD (calF lenD [binF ixD (varF 2) (cstF (.int 0))]) (varF 1)))))) (retF (cstF (.bl false))) (nxF)) (seqS (ifS (tbF (binF neD (cmpD [5] (itF (binF ixD (varF 2) (cstF (.int 0)))) (tgName 5) (T_x_is_poly_1) (E_x_is_poly_1)) (lstF []))) (retF (cstF (.bl false))) (nxF)) (ifS (orF (notF (tstF (unF (isiD "int") (binF ixD (varF 2) (cstF (.int 1)))))) (orF (tstF (unF (isiD "bool") (binF ixD (varF 2) (cstF (.int 1))))) (tbF (binF eqD (binF ixD (varF 2) (cstF (.int 1))) (cstF (.int 0)))))) (retF (cstF (.bl false))) (nxF)))
noncomputable def E_x_is_poly_2 : DL.Frame → M D := binF ixD (varF 2) (cstF (.int 0))
noncomputable def E_x_is_poly_3 : DL.Frame → M D := varF 4
noncomputable def T_x_is_poly_3 : DL.Frame → M Bool := notF (tbF (binF ltX (binF ixD (varF 3) (binF subD (varF 4) (cstF (.int 1)))) (binF ixD (varF 3) (varF 4))))
noncomputable def B_x_is_poly : SM := seqS (ifS (notF (tstF (unF (isiD "tuple") (varF 0)))) (retF (cstF (.bl false))) (nxF)) (seqS (forF (itF (varF 0)) (tgName 2) (L_x_is_poly_1)) (seqS (asgF 3 (cmpD [2] (itF (varF 0)) (tgName 2) (yesF) (E_x_is_poly_2))) (retF (binF eqD (cmpD [4] (rngF rng2 [cstF (.int 1), calF lenD [varF 3]]) (tgName 4) (T_x_is_poly_3) (E_x_is_poly_3)) (lstF [])))))
noncomputable abbrev F_x_is_poly : List D → M D := defF 6 B_x_is_poly
theorem ok_x_is_poly {X : Cx} (c : CxD X N_x_is_poly sc_x_is_poly none 1) (G : Gs X.K X.mg) (h_x_is_whole : FnD X.prog X.w X.K X.mg X.base CX0 1 "_law_is_whole" 2 [] F_x_is_whole) : DSs X W0 B_x_is_poly (defBody s_x_is_poly) := DSs_cons (DS_if (DT_not (DT_val (c.isi ng_x_is_poly_isinstance ng_x_is_poly_tuple G.b_isinstance G.b_tuple (c.var nl_x_is_poly_0) bt_tuple))) (DSs_one (DS_ret (DE_bl))) (DSs_nil)) (DSs_cons (c.for_ (DI_seq (c.var nl_x_is_poly_0)) (c.tgt nl_x_is_poly_2 (.inl (by decide +kernel))) (DSs_cons (DS_if (DW.pt (DW_or (DT_not (DT_val (c.isi ng_x_is_poly_isinstance ng_x_is_poly_tuple G.b_isinstance G.b_tuple (c.var nl_x_is_poly_2) bt_tuple))) (DW_or (DT_cmp (OpD_ne c.hu) (c.blt ng_x_is_poly_len G.b_len bt_len C_len (DA_cons (c.var nl_x_is_poly_2) (DA_nil))) (DE_int)) (DW_or (DT_not (DT_val (c.isi ng_x_is_poly_isinstance ng_x_is_poly_tuple G.b_isinstance G.b_tuple (DE_ix (c.var nl_x_is_poly_2) (DE_int)) bt_tuple))) (DW_or1 (DT_cmp (OpD_ne c.hu) (c.blt ng_x_is_poly_len G.b_len bt_len C_len (DA_cons (DE_ix (c.var nl_x_is_poly_2) (DE_int)) (DA_nil))) (c.var nl_x_is_poly_1))))))) (DSs_one (DS_ret (DE_bl))) (DSs_nil)) (DSs_cons (DS_if (DT_cmp (OpD_ne c.hu) (c.cmp [("_law_power", 5)] (DI_seq (DE_ix (c.var nl_x_is_poly_2) (DE_int))) ok_sc_x_is_poly_1 (fun _ _ _ _ _ c1 => ⟨c1.tgt nl_x_is_poly_1_5 (.inl (by decide +kernel)), DTs_one (DT_not (DT_val (c1.call0 ng_x_is_poly_1_x_is_whole h_x_is_whole (by decide) rfl (DA_cons (c1.var nl_x_is_poly_1_5) (DA_cons (DE_int) (DA_nil)))))), c1.var nl_x_is_poly_1_5⟩) (by decide)) (DE_lst (DA_nil))) (DSs_one (DS_ret (DE_bl))) (DSs_nil)) (DSs_one (DS_if (DW.pt (DW_or (DT_not (DT_val (c.isi ng_x_is_poly_isinstance ng_x_is_poly_int G.b_isinstance G.b_int (DE_ix (c.var nl_x_is_poly_2) (DE_int)) bt_int))) (DW_or (DT_val (c.isi ng_x_is_poly_isinstance ng_x_is_poly_bool G.b_isinstance G.b_bool (DE_ix (c.var nl_x_is_poly_2) (DE_int)) bt_bool)) (DW_or1 (DT_cmp (OpD_eq c.hu) (DE_ix (c.var nl_x_is_poly_2) (DE_int)) (DE_int)))))) (DSs_one (DS_ret (DE_bl))) (DSs_nil)))))) (DSs_cons (c.set nl_x_is_poly_3 (.inr ⟨by decide +kernel, rfl⟩) (c.cmp [("_law_pair", 2)] (DI_seq (c.var nl_x_is_poly_0)) ok_sc_x_is_poly_2 (fun _ _ _ _ _ c2 => ⟨c2.tgt nl_x_is_poly_2_2 (.inl (by decide +kernel)), DTs_nil, DE_ix (c2.var nl_x_is_poly_2_2) (DE_int)⟩) (by decide)) (sw_cell c (by decide +kernel))) (DSs_one (DS_ret (DE_cmp (OpD_eq c.hu) (c.cmp [("_law_k", 4)] (c.rng2 ng_x_is_poly_range G.b_range (DA_cons (DE_int) (DA_cons (c.blt ng_x_is_poly_len G.b_len bt_len C_len (DA_cons (c.var nl_x_is_poly_3) (DA_nil))) (DA_nil)))) ok_sc_x_is_poly_3 (fun _ _ _ _ _ c3 => ⟨c3.tgt nl_x_is_poly_3_4 (.inl (by decide +kernel)), DTs_one (DT_not (DT_cmp (OpD_ltX c3.hu) (DE_ix (c3.var nl_x_is_poly_3_3) (DE_bin OpD_sub (c3.var nl_x_is_poly_3_4) (DE_int))) (DE_ix (c3.var nl_x_is_poly_3_3) (c3.var nl_x_is_poly_3_4)))), c3.var nl_x_is_poly_3_4⟩) (by decide)) (DE_lst (DA_nil)))))))
theorem mk_x_is_poly {P : Program} {w : World} {K : PySem.W.Frag} {mg : Str → Option Value} {base : Heap} {f : Addr} {fd : FuncData} (F : Fun K "_law_is_poly" "_law_is_poly" s_x_is_poly f fd) (hm : mg "_law_is_poly" = some (.ref f)) (G : Gs K mg) (h_x_is_whole : FnD P w K mg base CX0 1 "_law_is_whole" 2 [] F_x_is_whole) : FnD P w K mg base CX0 2 "_law_is_poly" 2 [] F_x_is_poly := by
  have b3 := F.binds (ps := ["_law_thing", "_law_many"]) fun _ _ _ _ _ _ us hl => match us, hl with | [_, _], _ => rfl
  exact ⟨f, fd, ["_law_thing", "_law_many"], [], [], hm, F.kp, (fn_body (N := N_x_is_poly) (ps := ["_law_thing", "_law_many"]) (k := 1) F ⟨rfl, rfl, rfl, by decide +kernel, rfl, by decide +kernel, by decide +kernel⟩ (fun X e1 e2 e3 e4 e5 c hx => by subst e1 e2 e3 e4 e5; exact ok_x_is_poly c G h_x_is_whole)), b3, .nil, fun _ _ => rfl⟩
/-! ### law -/
abbrev s_law : Stmt := top 15
def N_law : List Str := ["_law_script", "_law_deck_here", "_law_turn", "_law_many", "_law_a", "_law_b", "_law_c", "_law_pairs", "_law_k", "_law_one_here", "_law_other"]
abbrev sc_law : Scope := defScope s_law
def usc_law_1 : Scope := ⟨.function, [(".0", .local), ("_law_k", .local), ("_law_poly", .globalImplicit), ("_law_deck_here", .free), ("_law_many", .free)], false, false, []⟩
abbrev sc_law_1 : Scope := relS usc_law_1 sc_law
def usc_law_2 : Scope := ⟨.function, [(".0", .local), ("_law_one_here", .local), ("_law_other", .local), ("repr", .globalImplicit)], false, false, []⟩
abbrev sc_law_2 : Scope := relS usc_law_2 sc_law
def usc_law_3 : Scope := ⟨.function, [(".0", .local), ("_law_one_here", .local), ("_law_is_poly", .globalImplicit), ("_law_many", .free)], false, false, []⟩
abbrev sc_law_3 : Scope := relS usc_law_3 sc_law
theorem nl_law_0 : NL N_law sc_law 0 "_law_script" := ⟨rfl, by decide +kernel, by decide +kernel, by decide +kernel⟩
theorem ng_law_x_deck : NG sc_law "_law_deck" := ⟨by decide +kernel, by decide +kernel, by decide +kernel⟩
theorem nl_law_1 : NL N_law sc_law 1 "_law_deck_here" := ⟨rfl, by decide +kernel, by decide +kernel, by decide +kernel⟩
theorem ng_law_range : NG sc_law "range" := ⟨by decide +kernel, by decide +kernel, by decide +kernel⟩
theorem nl_law_2 : NL N_law sc_law 2 "_law_turn" := ⟨rfl, by decide +kernel, by decide +kernel, by decide +kernel⟩
theorem ng_law_x_draw : NG sc_law "_law_draw" := ⟨by decide +kernel, by decide +kernel, by decide +kernel⟩
theorem nl_law_3 : NL N_law sc_law 3 "_law_many" := ⟨rfl, by decide +kernel, by decide +kernel, by decide +kernel⟩
theorem nl_law_1_8 : NL N_law sc_law_1 8 "_law_k" := ⟨rfl, by decide +kernel, by decide +kernel, by decide +kernel⟩
theorem nl_law_1_1 : NL N_law sc_law_1 1 "_law_deck_here" := ⟨rfl, by decide +kernel, by decide +kernel, by decide +kernel⟩
theorem nl_law_1_3 : NL N_law sc_law_1 3 "_law_many" := ⟨rfl, by decide +kernel, by decide +kernel, by decide +kernel⟩
theorem ng_law_1_x_poly : NG sc_law_1 "_law_poly" := ⟨by decide +kernel, by decide +kernel, by decide +kernel⟩
theorem ok_sc_law_1 : BlkOk N_law sc_law usc_law_1 [("_law_k", 8)] := ⟨rfl, by decide +kernel, by decide +kernel, by decide +kernel, by decide +kernel⟩
theorem nl_law_4 : NL N_law sc_law 4 "_law_a" := ⟨rfl, by decide +kernel, by decide +kernel, by decide +kernel⟩
theorem nl_law_5 : NL N_law sc_law 5 "_law_b" := ⟨rfl, by decide +kernel, by decide +kernel, by decide +kernel⟩
theorem nl_law_6 : NL N_law sc_law 6 "_law_c" := ⟨rfl, by decide +kernel, by decide +kernel, by decide +kernel⟩
theorem ng_law_plus : NG sc_law "plus" := ⟨by decide +kernel, by decide +kernel, by decide +kernel⟩
theorem ng_law_times : NG sc_law "times" := ⟨by decide +kernel, by decide +kernel, by decide +kernel⟩
theorem nl_law_7 : NL N_law sc_law 7 "_law_pairs" := ⟨rfl, by decide +kernel, by decide +kernel, by decide +kernel⟩
theorem ng_law_minus : NG sc_law "minus" := ⟨by decide +kernel, by decide +kernel, by decide +kernel⟩
theorem ng_law_constant : NG sc_law "constant" := ⟨by decide +kernel, by decide +kernel, by decide +kernel⟩
theorem nl_law_2_9 : NL N_law sc_law_2 9 "_law_one_here" := ⟨rfl, by decide +kernel, by decide +kernel, by decide +kernel⟩
theorem nl_law_2_10 : NL N_law sc_law_2 10 "_law_other" := ⟨rfl, by decide +kernel, by decide +kernel, by decide +kernel⟩
theorem ng_law_2_repr : NG sc_law_2 "repr" := ⟨by decide +kernel, by decide +kernel, by decide +kernel⟩
theorem ok_sc_law_2 : BlkOk N_law sc_law usc_law_2 [("_law_one_here", 9), ("_law_other", 10)] := ⟨rfl, by decide +kernel, by decide +kernel, by decide +kernel, by decide +kernel⟩
theorem nl_law_3_9 : NL N_law sc_law_3 9 "_law_one_here" := ⟨rfl, by decide +kernel, by decide +kernel, by decide +kernel⟩
theorem nl_law_3_3 : NL N_law sc_law_3 3 "_law_many" := ⟨rfl, by decide +kernel, by decide +kernel, by decide +kernel⟩
theorem ng_law_3_x_is_poly : NG sc_law_3 "_law_is_poly" := ⟨by decide +kernel, by decide +kernel, by decide +kernel⟩
theorem ok_sc_law_3 : BlkOk N_law sc_law usc_law_3 [("_law_one_here", 9)] := ⟨rfl, by decide +kernel, by decide +kernel, by decide +kernel, by decide +kernel⟩
noncomputable def E_law_1 : DL.Frame → M D := calF (fun xs => F_x_poly (xs ++ [])) [varF 1, varF 3]
noncomputable def E_law_2 : DL.Frame → M D := cstF (.int 1)
noncomputable def T_law_2 : DL.Frame → M Bool := tbF (binF neD (calF reprD [varF 9]) (calF reprD [varF 10]))
noncomputable def E_law_3 : DL.Frame → M D := cstF (.int 1)
noncomputable def T_law_3 : DL.Frame → M Bool := notF (tstF (calF (fun xs => F_x_is_poly (xs ++ [])) [varF 9, varF 3]))
noncomputable def L_law_1 : SM := seqS (asgF 3 (binF addD (cstF (.int 2)) (calF (fun xs => F_x_draw (xs ++ [])) [varF 1, cstF (.int 7)]))) (seqS (asgG (tgSeq [tgName 4, tgName 5, tgName 6]) (cmpD [8] (rngF rng1 [cstF (.int 3)]) (tgName 8) (yesF) (E_law_1))) (seqS (asgF 7 (lstO [lstF [calF (fun xs => F_plus (xs ++ [])) [varF 4, varF 5], calF (fun xs => F_plus (xs ++ [])) [varF 5, varF 4]], lstF [calF (fun xs => F_times (xs ++ [])) [varF 4, varF 5], calF (fun xs => F_times (xs ++ [])) [varF 5, varF 4]], lstF [calF (fun xs => F_plus (xs ++ [])) [calF (fun xs => F_plus (xs ++ [])) [varF 4, varF 5], varF 6], calF (fun xs => F_plus (xs ++ [])) [varF 4, calF (fun xs => F_plus (xs ++ [])) [varF 5, varF 6]]]])) (seqS (asgF 7 (binF addO (varF 7) (lstF [lstF [calF (fun xs => F_times (xs ++ [])) [varF 4, calF (fun xs => F_plus (xs ++ [])) [varF 5, varF 6]], calF (fun xs => F_plus (xs ++ [])) [calF (fun xs => F_times (xs ++ [])) [varF 4, varF 5], calF (fun xs => F_times (xs ++ [])) [varF 4, varF 6]]], lstF [calF (fun xs => F_minus (xs ++ [])) [varF 4, varF 4], tupP []]]))) (seqS (asgF 7 (binF addO (varF 7) (lstF [lstF [calF (fun xs => F_plus (xs ++ [])) [calF (fun xs => F_minus (xs ++ [])) [varF 4, varF 5], varF 5], varF 4], lstF [calF (fun xs => F_times (xs ++ [])) [varF 4, calF (fun xs => F_constant (xs ++ [])) [varF 3, cstF (.int 1)]], varF 4], lstF [calF (fun xs => F_times (xs ++ [])) [varF 4, tupP []], tupP []]]))) (seqS (asgF 7 (binF addO (varF 7) (lstF [lstF [calF (fun xs => F_minus (xs ++ [])) [varF 4, varF 5], calF (fun xs => F_plus (xs ++ [])) [varF 4, calF (fun xs => F_times (xs ++ [])) [calF (fun xs => F_constant (xs ++ [])) [varF 3, unF negD (cstF (.int 1))], varF 5]]], lstF [calF (fun xs => F_plus (xs ++ [])) [tupP [], varF 4], varF 4], lstF [calF (fun xs => F_minus (xs ++ [])) [varF 4, tupP []], varF 4]]))) (seqS (exprF (metF "list" appD (varF 7) [lstF [calF (fun xs => F_times (xs ++ [])) [calF (fun xs => F_plus (xs ++ [])) [varF 4, varF 5], calF (fun xs => F_minus (xs ++ [])) [varF 4, varF 5]], calF (fun xs => F_minus (xs ++ [])) [calF (fun xs => F_times (xs ++ [])) [varF 4, varF 4], calF (fun xs => F_times (xs ++ [])) [varF 5, varF 5]]]])) (seqS (ifS (tbF (binF neD (cmpD [9, 10] (itF (varF 7)) (tgSeq [tgName 9, tgName 10]) (T_law_2) (E_law_2)) (lstF []))) (retF (cstF (.bl false))) (nxF)) (ifS (orF (tbF (binF neD (binF eqD (calF (fun xs => F_minus (xs ++ [])) [varF 4, varF 5]) (tupP [])) (binF eqD (varF 4) (varF 5)))) (tbF (binF neD (cmpD [9] (itF (lstF [varF 4, varF 5, varF 6])) (tgName 9) (T_law_3) (E_law_3)) (lstF [])))) (retF (cstF (.bl false))) (nxF)))))))))
noncomputable def B_law : SM := seqS (asgF 1 (calF (fun xs => F_x_deck (xs ++ [])) [varF 0])) (seqS (forF (rngF rng1 [cstF (.int 8)]) (tgName 2) (L_law_1)) (retF (cstF (.bl true))))
noncomputable abbrev F_law : List D → M D := defF 11 B_law
theorem ok_law {X : Cx} (c : CxD X N_law sc_law none 4) (G : Gs X.K X.mg) (hg : X.A.guards = some []) (h_x_deck : FnD X.prog X.w X.K X.mg X.base CX0 1 "_law_deck" 1 [] F_x_deck) (h_x_draw : FnD X.prog X.w X.K X.mg X.base CX0 1 "_law_draw" 2 [] F_x_draw) (h_x_poly : FnD X.prog X.w X.K X.mg X.base CX0 4 "_law_poly" 2 [] F_x_poly) (h_plus : FnD X.prog X.w X.K X.mg X.base CX0 2 "plus" 2 [] F_plus) (h_times : FnD X.prog X.w X.K X.mg X.base CX0 2 "times" 2 [] F_times) (h_minus : FnD X.prog X.w X.K X.mg X.base CX0 3 "minus" 2 [] F_minus) (h_constant : FnD X.prog X.w X.K X.mg X.base CX0 1 "constant" 2 [] F_constant) (h_x_is_poly : FnD X.prog X.w X.K X.mg X.base CX0 2 "_law_is_poly" 2 [] F_x_is_poly) : DSs X W0 B_law (defBody s_law) := DSs_cons (c.set nl_law_1 (.inr ⟨by decide +kernel, rfl⟩) (c.call0 ng_law_x_deck h_x_deck (by decide) rfl (DA_cons (c.var nl_law_0) (DA_nil)))) (DSs_cons (c.for_ (c.rng1 ng_law_range G.b_range (DA_cons (DE_int) (DA_nil))) (c.tgt nl_law_2 (.inl (by decide +kernel))) (DSs_cons (c.set nl_law_3 (.inr ⟨by decide +kernel, rfl⟩) (DE_bin OpD_add (DE_int) (c.call0 ng_law_x_draw h_x_draw (by decide) rfl (DA_cons (c.var nl_law_1) (DA_cons (DE_int) (DA_nil)))))) (DSs_cons (c.asgT (c.cmp [("_law_k", 8)] (c.rng1 ng_law_range G.b_range (DA_cons (DE_int) (DA_nil))) ok_sc_law_1 (fun _ _ _ _ _ c1 => ⟨c1.tgt nl_law_1_8 (.inl (by decide +kernel)), DTs_nil, c1.call0 ng_law_1_x_poly h_x_poly (by decide) rfl (DA_cons (c1.var nl_law_1_1) (DA_cons (c1.var nl_law_1_3) (DA_nil)))⟩) (by decide)) (c.seq (DGs_cons (c.tgt nl_law_4 (.inl (by decide +kernel))) (DGs_cons (c.tgt nl_law_5 (.inl (by decide +kernel))) (DGs_cons (c.tgt nl_law_6 (.inl (by decide +kernel))) (DGs_nil))))) (by rintro ⟨⟩ h; cases h; rfl)) (DSs_cons (c.set nl_law_7 (.inl (by decide +kernel)) (DE_lstO (DA_cons (DE_lst (DA_cons (c.call0 ng_law_plus h_plus (by decide) rfl (DA_cons (c.var nl_law_4) (DA_cons (c.var nl_law_5) (DA_nil)))) (DA_cons (c.call0 ng_law_plus h_plus (by decide) rfl (DA_cons (c.var nl_law_5) (DA_cons (c.var nl_law_4) (DA_nil)))) (DA_nil)))) (DA_cons (DE_lst (DA_cons (c.call0 ng_law_times h_times (by decide) rfl (DA_cons (c.var nl_law_4) (DA_cons (c.var nl_law_5) (DA_nil)))) (DA_cons (c.call0 ng_law_times h_times (by decide) rfl (DA_cons (c.var nl_law_5) (DA_cons (c.var nl_law_4) (DA_nil)))) (DA_nil)))) (DA_cons (DE_lst (DA_cons (c.call0 ng_law_plus h_plus (by decide) rfl (DA_cons (c.call0 ng_law_plus h_plus (by decide) rfl (DA_cons (c.var nl_law_4) (DA_cons (c.var nl_law_5) (DA_nil)))) (DA_cons (c.var nl_law_6) (DA_nil)))) (DA_cons (c.call0 ng_law_plus h_plus (by decide) rfl (DA_cons (c.var nl_law_4) (DA_cons (c.call0 ng_law_plus h_plus (by decide) rfl (DA_cons (c.var nl_law_5) (DA_cons (c.var nl_law_6) (DA_nil)))) (DA_nil)))) (DA_nil)))) (DA_nil)))))) (DSs_cons (c.set nl_law_7 (.inl (by decide +kernel)) (DE_bin OpD_addO (c.var nl_law_7) (DE_lst (DA_cons (DE_lst (DA_cons (c.call0 ng_law_times h_times (by decide) rfl (DA_cons (c.var nl_law_4) (DA_cons (c.call0 ng_law_plus h_plus (by decide) rfl (DA_cons (c.var nl_law_5) (DA_cons (c.var nl_law_6) (DA_nil)))) (DA_nil)))) (DA_cons (c.call0 ng_law_plus h_plus (by decide) rfl (DA_cons (c.call0 ng_law_times h_times (by decide) rfl (DA_cons (c.var nl_law_4) (DA_cons (c.var nl_law_5) (DA_nil)))) (DA_cons (c.call0 ng_law_times h_times (by decide) rfl (DA_cons (c.var nl_law_4) (DA_cons (c.var nl_law_6) (DA_nil)))) (DA_nil)))) (DA_nil)))) (DA_cons (DE_lst (DA_cons (c.call0 ng_law_minus h_minus (by decide) rfl (DA_cons (c.var nl_law_4) (DA_cons (c.var nl_law_4) (DA_nil)))) (DA_cons (DE_tupP (DA_nil)) (DA_nil)))) (DA_nil)))))) (DSs_cons (c.set nl_law_7 (.inl (by decide +kernel)) (DE_bin OpD_addO (c.var nl_law_7) (DE_lst (DA_cons (DE_lst (DA_cons (c.call0 ng_law_plus h_plus (by decide) rfl (DA_cons (c.call0 ng_law_minus h_minus (by decide) rfl (DA_cons (c.var nl_law_4) (DA_cons (c.var nl_law_5) (DA_nil)))) (DA_cons (c.var nl_law_5) (DA_nil)))) (DA_cons (c.var nl_law_4) (DA_nil)))) (DA_cons (DE_lst (DA_cons (c.call0 ng_law_times h_times (by decide) rfl (DA_cons (c.var nl_law_4) (DA_cons (c.call0 ng_law_constant h_constant (by decide) rfl (DA_cons (c.var nl_law_3) (DA_cons (DE_int) (DA_nil)))) (DA_nil)))) (DA_cons (c.var nl_law_4) (DA_nil)))) (DA_cons (DE_lst (DA_cons (c.call0 ng_law_times h_times (by decide) rfl (DA_cons (c.var nl_law_4) (DA_cons (DE_tupP (DA_nil)) (DA_nil)))) (DA_cons (DE_tupP (DA_nil)) (DA_nil)))) (DA_nil))))))) (DSs_cons (c.set nl_law_7 (.inl (by decide +kernel)) (DE_bin OpD_addO (c.var nl_law_7) (DE_lst (DA_cons (DE_lst (DA_cons (c.call0 ng_law_minus h_minus (by decide) rfl (DA_cons (c.var nl_law_4) (DA_cons (c.var nl_law_5) (DA_nil)))) (DA_cons (c.call0 ng_law_plus h_plus (by decide) rfl (DA_cons (c.var nl_law_4) (DA_cons (c.call0 ng_law_times h_times (by decide) rfl (DA_cons (c.call0 ng_law_constant h_constant (by decide) rfl (DA_cons (c.var nl_law_3) (DA_cons (DE_un UnD_neg (DE_int)) (DA_nil)))) (DA_cons (c.var nl_law_5) (DA_nil)))) (DA_nil)))) (DA_nil)))) (DA_cons (DE_lst (DA_cons (c.call0 ng_law_plus h_plus (by decide) rfl (DA_cons (DE_tupP (DA_nil)) (DA_cons (c.var nl_law_4) (DA_nil)))) (DA_cons (c.var nl_law_4) (DA_nil)))) (DA_cons (DE_lst (DA_cons (c.call0 ng_law_minus h_minus (by decide) rfl (DA_cons (c.var nl_law_4) (DA_cons (DE_tupP (DA_nil)) (DA_nil)))) (DA_cons (c.var nl_law_4) (DA_nil)))) (DA_nil))))))) (DSs_cons (DS_expr (DE_append (c.var nl_law_7) (DA_cons (DE_lst (DA_cons (c.call0 ng_law_times h_times (by decide) rfl (DA_cons (c.call0 ng_law_plus h_plus (by decide) rfl (DA_cons (c.var nl_law_4) (DA_cons (c.var nl_law_5) (DA_nil)))) (DA_cons (c.call0 ng_law_minus h_minus (by decide) rfl (DA_cons (c.var nl_law_4) (DA_cons (c.var nl_law_5) (DA_nil)))) (DA_nil)))) (DA_cons (c.call0 ng_law_minus h_minus (by decide) rfl (DA_cons (c.call0 ng_law_times h_times (by decide) rfl (DA_cons (c.var nl_law_4) (DA_cons (c.var nl_law_4) (DA_nil)))) (DA_cons (c.call0 ng_law_times h_times (by decide) rfl (DA_cons (c.var nl_law_5) (DA_cons (c.var nl_law_5) (DA_nil)))) (DA_nil)))) (DA_nil)))) (DA_nil)))) (DSs_cons (DS_if (DT_cmp (OpD_ne c.hu) (c.cmp [("_law_one_here", 9), ("_law_other", 10)] (DI_seq (c.var nl_law_7)) ok_sc_law_2 (fun _ _ _ _ _ c2 => ⟨c2.seq (DGs_cons (c2.tgt nl_law_2_9 (.inl (by decide +kernel))) (DGs_cons (c2.tgt nl_law_2_10 (.inl (by decide +kernel))) (DGs_nil))), DTs_one (DT_cmp (OpD_ne c2.hu) (c2.blt ng_law_2_repr G.b_repr bt_repr (C_repr hg c2.hu) (DA_cons (c2.var nl_law_2_9) (DA_nil))) (c2.blt ng_law_2_repr G.b_repr bt_repr (C_repr hg c2.hu) (DA_cons (c2.var nl_law_2_10) (DA_nil)))), DE_int⟩) (by decide)) (DE_lst (DA_nil))) (DSs_one (DS_ret (DE_bl))) (DSs_nil)) (DSs_one (DS_if (DW.pt (DW_or (DT_cmp (OpD_ne c.hu) (DE_cmp (OpD_eq c.hu) (c.call0 ng_law_minus h_minus (by decide) rfl (DA_cons (c.var nl_law_4) (DA_cons (c.var nl_law_5) (DA_nil)))) (DE_tupP (DA_nil))) (DE_cmp (OpD_eq c.hu) (c.var nl_law_4) (c.var nl_law_5))) (DW_or1 (DT_cmp (OpD_ne c.hu) (c.cmp [("_law_one_here", 9)] (DI_seq (DE_lst (DA_cons (c.var nl_law_4) (DA_cons (c.var nl_law_5) (DA_cons (c.var nl_law_6) (DA_nil)))))) ok_sc_law_3 (fun _ _ _ _ _ c3 => ⟨c3.tgt nl_law_3_9 (.inl (by decide +kernel)), DTs_one (DT_not (DT_val (c3.call0 ng_law_3_x_is_poly h_x_is_poly (by decide) rfl (DA_cons (c3.var nl_law_3_9) (DA_cons (c3.var nl_law_3_3) (DA_nil)))))), DE_int⟩) (by decide)) (DE_lst (DA_nil)))))) (DSs_one (DS_ret (DE_bl))) (DSs_nil)))))))))))) (DSs_one (DS_ret (DE_bl))))
/-! ### what the top has written -/
theorem all_mk {P : Program} {w : World} {K : PySem.W.Frag} {h : Heap} {mg : Str → Option Value} {fa : Addr} {f0 f1 f2 f3 f4 f5 f6 f7 f8 f9 f10 f11 f12 f13 : Addr} {oc0 kV0 dc0 pm0 cd0 ct0 oc1 kV1 dc1 pm1 cd1 ct1 oc2 kV2 dc2 pm2 cd2 ct2 oc3 kV3 dc3 pm3 cd3 ct3 oc4 kV4 dc4 pm4 cd4 ct4 oc5 kV5 dc5 pm5 cd5 ct5 oc6 kV6 dc6 pm6 cd6 ct6 oc7 kV7 dc7 pm7 cd7 ct7 oc8 kV8 dc8 pm8 cd8 ct8 oc9 kV9 dc9 pm9 cd9 ct9 oc10 kV10 dc10 pm10 cd10 ct10 oc11 kV11 dc11 pm11 cd11 ct11 oc12 kV12 dc12 pm12 cd12 ct12 oc13 kV13 dc13 pm13 cd13 ct13 : Value} {od0 an0 od1 an1 od2 an2 od3 an3 od4 an4 od5 an5 od6 an6 od7 an7 od8 an8 od9 an9 od10 an10 od11 an11 od12 an12 od13 an13 : Option Addr} {sl0 sl1 sl2 sl3 sl4 sl5 sl6 sl7 sl8 sl9 sl10 sl11 sl12 sl13 : Array (Option Value)} (Y : K.In h) (Z : h.Ns mainGlobals mg) (hfa : mg "law" = some (.ref fa))
    (a0 : PySem.W.nsIn K mainGlobals "_law_deck" = some (some (.ref f0)))
    (l0 : K.lookup f0 = some ⟨oc0, od0, .func (PySem.W.fnOf "_law_deck" "_law_deck" (defArgs s_x_deck) (defBody s_x_deck) (defScope s_x_deck) .none kV0 dc0 pm0 an0 cd0 ct0), sl0⟩)
    (c0 : PySem.W.codeIn K cd0 "_law_deck" = true)
    (k0 : PySem.W.keepIn K (.ref f0) = true)
    (a1 : PySem.W.nsIn K mainGlobals "_law_draw" = some (some (.ref f1)))
    (l1 : K.lookup f1 = some ⟨oc1, od1, .func (PySem.W.fnOf "_law_draw" "_law_draw" (defArgs s_x_draw) (defBody s_x_draw) (defScope s_x_draw) .none kV1 dc1 pm1 an1 cd1 ct1), sl1⟩)
    (c1 : PySem.W.codeIn K cd1 "_law_draw" = true)
    (k1 : PySem.W.keepIn K (.ref f1) = true)
    (a2 : PySem.W.nsIn K mainGlobals "constant" = some (some (.ref f2)))
    (l2 : K.lookup f2 = some ⟨oc2, od2, .func (PySem.W.fnOf "constant" "constant" (defArgs s_constant) (defBody s_constant) (defScope s_constant) .none kV2 dc2 pm2 an2 cd2 ct2), sl2⟩)
    (c2 : PySem.W.codeIn K cd2 "constant" = true)
    (k2 : PySem.W.keepIn K (.ref f2) = true)
    (a3 : PySem.W.nsIn K mainGlobals "_law_one" = some (some (.ref f3)))
    (l3 : K.lookup f3 = some ⟨oc3, od3, .func (PySem.W.fnOf "_law_one" "_law_one" (defArgs s_x_one) (defBody s_x_one) (defScope s_x_one) .none kV3 dc3 pm3 an3 cd3 ct3), sl3⟩)
    (c3 : PySem.W.codeIn K cd3 "_law_one" = true)
    (k3 : PySem.W.keepIn K (.ref f3) = true)
    (a4 : PySem.W.nsIn K mainGlobals "_law_number" = some (some (.ref f4)))
    (l4 : K.lookup f4 = some ⟨oc4, od4, .func (PySem.W.fnOf "_law_number" "_law_number" (defArgs s_x_number) (defBody s_x_number) (defScope s_x_number) .none kV4 dc4 pm4 an4 cd4 ct4), sl4⟩)
    (c4 : PySem.W.codeIn K cd4 "_law_number" = true)
    (k4 : PySem.W.keepIn K (.ref f4) = true)
    (a5 : PySem.W.nsIn K mainGlobals "made" = some (some (.ref f5)))
    (l5 : K.lookup f5 = some ⟨oc5, od5, .func (PySem.W.fnOf "made" "made" (defArgs s_made) (defBody s_made) (defScope s_made) .none kV5 dc5 pm5 an5 cd5 ct5), sl5⟩)
    (c5 : PySem.W.codeIn K cd5 "made" = true)
    (k5 : PySem.W.keepIn K (.ref f5) = true)
    (a6 : PySem.W.nsIn K mainGlobals "times" = some (some (.ref f6)))
    (l6 : K.lookup f6 = some ⟨oc6, od6, .func (PySem.W.fnOf "times" "times" (defArgs s_times) (defBody s_times) (defScope s_times) .none kV6 dc6 pm6 an6 cd6 ct6), sl6⟩)
    (c6 : PySem.W.codeIn K cd6 "times" = true)
    (k6 : PySem.W.keepIn K (.ref f6) = true)
    (a7 : PySem.W.nsIn K mainGlobals "unknown" = some (some (.ref f7)))
    (l7 : K.lookup f7 = some ⟨oc7, od7, .func (PySem.W.fnOf "unknown" "unknown" (defArgs s_unknown) (defBody s_unknown) (defScope s_unknown) .none kV7 dc7 pm7 an7 cd7 ct7), sl7⟩)
    (c7 : PySem.W.codeIn K cd7 "unknown" = true)
    (k7 : PySem.W.keepIn K (.ref f7) = true)
    (a8 : PySem.W.nsIn K mainGlobals "plus" = some (some (.ref f8)))
    (l8 : K.lookup f8 = some ⟨oc8, od8, .func (PySem.W.fnOf "plus" "plus" (defArgs s_plus) (defBody s_plus) (defScope s_plus) .none kV8 dc8 pm8 an8 cd8 ct8), sl8⟩)
    (c8 : PySem.W.codeIn K cd8 "plus" = true)
    (k8 : PySem.W.keepIn K (.ref f8) = true)
    (a9 : PySem.W.nsIn K mainGlobals "_law_poly" = some (some (.ref f9)))
    (l9 : K.lookup f9 = some ⟨oc9, od9, .func (PySem.W.fnOf "_law_poly" "_law_poly" (defArgs s_x_poly) (defBody s_x_poly) (defScope s_x_poly) .none kV9 dc9 pm9 an9 cd9 ct9), sl9⟩)
    (c9 : PySem.W.codeIn K cd9 "_law_poly" = true)
    (k9 : PySem.W.keepIn K (.ref f9) = true)
    (a10 : PySem.W.nsIn K mainGlobals "minus" = some (some (.ref f10)))
    (l10 : K.lookup f10 = some ⟨oc10, od10, .func (PySem.W.fnOf "minus" "minus" (defArgs s_minus) (defBody s_minus) (defScope s_minus) .none kV10 dc10 pm10 an10 cd10 ct10), sl10⟩)
    (c10 : PySem.W.codeIn K cd10 "minus" = true)
    (k10 : PySem.W.keepIn K (.ref f10) = true)
    (a11 : PySem.W.nsIn K mainGlobals "_law_is_whole" = some (some (.ref f11)))
    (l11 : K.lookup f11 = some ⟨oc11, od11, .func (PySem.W.fnOf "_law_is_whole" "_law_is_whole" (defArgs s_x_is_whole) (defBody s_x_is_whole) (defScope s_x_is_whole) .none kV11 dc11 pm11 an11 cd11 ct11), sl11⟩)
    (c11 : PySem.W.codeIn K cd11 "_law_is_whole" = true)
    (k11 : PySem.W.keepIn K (.ref f11) = true)
    (a12 : PySem.W.nsIn K mainGlobals "_law_is_poly" = some (some (.ref f12)))
    (l12 : K.lookup f12 = some ⟨oc12, od12, .func (PySem.W.fnOf "_law_is_poly" "_law_is_poly" (defArgs s_x_is_poly) (defBody s_x_is_poly) (defScope s_x_is_poly) .none kV12 dc12 pm12 an12 cd12 ct12), sl12⟩)
    (c12 : PySem.W.codeIn K cd12 "_law_is_poly" = true)
    (k12 : PySem.W.keepIn K (.ref f12) = true)
    (a13 : PySem.W.nsIn K mainGlobals "law" = some (some (.ref f13)))
    (l13 : K.lookup f13 = some ⟨oc13, od13, .func (PySem.W.fnOf "law" "law" (defArgs s_law) (defBody s_law) (defScope s_law) .none kV13 dc13 pm13 an13 cd13 ct13), sl13⟩)
    (c13 : PySem.W.codeIn K cd13 "law" = true)
    (k13 : PySem.W.keepIn K (.ref f13) = true)
    (b_abs : PySem.W.nsIn K mainGlobals "abs" = some none)
    (b_bool : PySem.W.nsIn K mainGlobals "bool" = some none)
    (b_dict : PySem.W.nsIn K mainGlobals "dict" = some none)
    (b_int : PySem.W.nsIn K mainGlobals "int" = some none)
    (b_isinstance : PySem.W.nsIn K mainGlobals "isinstance" = some none)
    (b_len : PySem.W.nsIn K mainGlobals "len" = some none)
    (b_range : PySem.W.nsIn K mainGlobals "range" = some none)
    (b_repr : PySem.W.nsIn K mainGlobals "repr" = some none)
    (b_sorted : PySem.W.nsIn K mainGlobals "sorted" = some none)
    (b_tuple : PySem.W.nsIn K mainGlobals "tuple" = some none)
    (b_zip : PySem.W.nsIn K mainGlobals "zip" = some none)
    (holds : ∀ ns : List Int, ns.length ≤ 63 → ∃ S, F_law [.lst (ns.map .int)] [] = .ok (.bl true) S) : LawRun P w K mg fa := by
  have e := hfa.symm.trans (PySem.W.mg_of Y Z a13)
  cases e
  have G : Gs K mg := ⟨PySem.W.mg_none_of Y Z b_abs, PySem.W.mg_none_of Y Z b_bool, PySem.W.mg_none_of Y Z b_dict, PySem.W.mg_none_of Y Z b_int, PySem.W.mg_none_of Y Z b_isinstance, PySem.W.mg_none_of Y Z b_len, PySem.W.mg_none_of Y Z b_range, PySem.W.mg_none_of Y Z b_repr, PySem.W.mg_none_of Y Z b_sorted, PySem.W.mg_none_of Y Z b_tuple, PySem.W.mg_none_of Y Z b_zip⟩
  refine law_of (N := N_law) (p := "_law_script") (k := 4) (B := B_law) (fun_mk (st := s_law) l13 c13 k13) ⟨rfl, rfl, rfl, by decide +kernel, rfl, by decide +kernel, by decide +kernel⟩ ((fun_mk (st := s_law) l13 c13 k13).binds fun _ _ _ _ _ _ us hl => match us, hl with | [_], _ => rfl) ⟨rfl, by decide, by decide⟩ (fun base X kb gb e1 e2 e3 e4 e5 c hx hg => ?_) holds
  have h_x_deck := mk_x_deck (P := P) (w := w) (base := base) (fun_mk (st := s_x_deck) l0 c0 k0) (PySem.W.mg_of Y Z a0) G
  have h_x_draw := mk_x_draw (P := P) (w := w) (base := base) (fun_mk (st := s_x_draw) l1 c1 k1) (PySem.W.mg_of Y Z a1) G
  have h_constant := mk_constant (P := P) (w := w) (base := base) (fun_mk (st := s_constant) l2 c2 k2) (PySem.W.mg_of Y Z a2) G
  have h_x_one := mk_x_one (P := P) (w := w) (base := base) (fun_mk (st := s_x_one) l3 c3 k3) (PySem.W.mg_of Y Z a3) G h_x_draw
  have h_x_number := mk_x_number (P := P) (w := w) (base := base) (fun_mk (st := s_x_number) l4 c4 k4) (PySem.W.mg_of Y Z a4) G h_x_draw h_x_one
  have h_made := mk_made (P := P) (w := w) (base := base) (fun_mk (st := s_made) l5 c5 k5) (PySem.W.mg_of Y Z a5) G
  have h_times := mk_times (P := P) (w := w) (base := base) (fun_mk (st := s_times) l6 c6 k6) (PySem.W.mg_of Y Z a6) G h_made
  have h_unknown := mk_unknown (P := P) (w := w) (base := base) (fun_mk (st := s_unknown) l7 c7 k7) (PySem.W.mg_of Y Z a7) G
  have h_plus := mk_plus (P := P) (w := w) (base := base) (fun_mk (st := s_plus) l8 c8 k8) (PySem.W.mg_of Y Z a8) G h_made
  have h_x_poly := mk_x_poly (P := P) (w := w) (base := base) (fun_mk (st := s_x_poly) l9 c9 k9) (PySem.W.mg_of Y Z a9) G h_constant h_x_draw h_x_one h_x_number h_times h_unknown h_plus
  have h_minus := mk_minus (P := P) (w := w) (base := base) (fun_mk (st := s_minus) l10 c10 k10) (PySem.W.mg_of Y Z a10) G h_plus
  have h_x_is_whole := mk_x_is_whole (P := P) (w := w) (base := base) (fun_mk (st := s_x_is_whole) l11 c11 k11) (PySem.W.mg_of Y Z a11) G
  have h_x_is_poly := mk_x_is_poly (P := P) (w := w) (base := base) (fun_mk (st := s_x_is_poly) l12 c12 k12) (PySem.W.mg_of Y Z a12) G h_x_is_whole
  subst e1 e2 e3 e4 e5
  exact ok_law c G hg h_x_deck h_x_draw h_x_poly h_plus h_times h_minus h_constant h_x_is_poly
end K09
namespace DL
/-! ### polynomials, in plain Lean: lists of powers and factors -/
abbrev Pw := List Int
abbrev Pol := List (Pw × Int)
namespace Pl
/-- the sum of the factors, each times what its powers come to -/
def lin : Pol → (Pw → Int) → Int
  | [], _ => 0
  | (k, c) :: r, f => c * f k + lin r f
def nm : Pol → Nat
  | [] => 0
  | (_, c) :: r => c.natAbs + nm r
theorem lin_app : ∀ (p q : Pol) (f : Pw → Int), lin (p ++ q) f = lin p f + lin q f
  | [], q, f => by simp [lin]
  | (k, c) :: p, q, f => by simp only [List.cons_append, lin, lin_app p q f]; omega
theorem lin_perm {p q : Pol} (h : p.Perm q) (f : Pw → Int) : lin p f = lin q f := by
  induction h with
  | nil => rfl
  | cons x _ ih => obtain ⟨k, c⟩ := x; simp only [lin, ih]
  | swap x y l => obtain ⟨k, c⟩ := x; obtain ⟨k', c'⟩ := y; simp only [lin]; omega
  | trans _ _ h1 h2 => exact h1.trans h2
theorem lin_filter (f : Pw → Int) : ∀ p : Pol, lin (p.filter fun x => decide (x.2 ≠ 0)) f = lin p f
  | [] => rfl
  | (k, c) :: p => by
    by_cases h : c = 0
    · subst h
      have := lin_filter f p
      simp only [List.filter_cons, ne_eq, not_true, decide_false, lin]
      simpa using this
    · simp only [List.filter_cons, ne_eq, h, not_false_eq_true, decide_true, if_true, lin, lin_filter f p]
theorem lin_zero : ∀ p : Pol, lin p (fun _ => 0) = 0
  | [] => rfl
  | (k, c) :: p => by simp [lin, lin_zero p]
theorem lin_add (f g : Pw → Int) : ∀ p : Pol, lin p (fun k => f k + g k) = lin p f + lin p g
  | [] => rfl
  | (k, c) :: p => by simp only [lin, lin_add f g p, Int.mul_add]; omega
theorem lin_mul (a : Int) (f : Pw → Int) : ∀ p : Pol, lin p (fun k => a * f k) = a * lin p f
  | [] => by simp [lin]
  | (k, c) :: p => by simp only [lin, lin_mul a f p, Int.mul_add]; rw [Int.mul_left_comm]
theorem lin_mulr (a : Int) (f : Pw → Int) (p : Pol) : lin p (fun k => f k * a) = lin p f * a := by
  rw [Int.mul_comm, ← lin_mul]
  congr 1
  funext k
  rw [Int.mul_comm]
theorem lin_neg (f : Pw → Int) (p : Pol) : lin p (fun k => - f k) = - lin p f := by
  have := lin_mul (-1) f p
  simpa [Int.neg_mul] using this
theorem lin_comm (g : Pw → Pw → Int) (q : Pol) : ∀ p : Pol, lin p (fun a => lin q (fun b => g a b)) = lin q (fun b => lin p (fun a => g a b))
  | [] => by simp only [lin]; exact (lin_zero q).symm
  | (k, c) :: p => by
    simp only [lin]
    rw [lin_comm g q p, lin_add, lin_mul]
theorem lin_congr {f g : Pw → Int} : ∀ {p : Pol}, (∀ x ∈ p, f x.1 = g x.1) → lin p f = lin p g
  | [], _ => rfl
  | (k, c) :: p, h => by
    simp only [lin]
    rw [h (k, c) (List.mem_cons_self ..), lin_congr fun x hx => h x (List.mem_cons_of_mem _ hx)]
/-! ### in order -/
def Asc (p : Pol) : Prop := p.Pairwise fun a b => a.1 < b.1
/-- a polynomial in many unknowns, as the program keeps it -/
structure Cn (many : Nat) (p : Pol) : Prop where
  asc : Asc p
  len : ∀ x ∈ p, x.1.length = many
  pos : ∀ x ∈ p, ∀ i ∈ x.1, 0 ≤ i
  nz : ∀ x ∈ p, x.2 ≠ 0
def at_ (k : Pw) : Pw → Int := fun j => if j = k then 1 else 0
theorem lin_absent {k : Pw} : ∀ {p : Pol}, (∀ x ∈ p, x.1 ≠ k) → lin p (at_ k) = 0
  | [], _ => rfl
  | (j, c) :: p, h => by
    have h1 : j ≠ k := h (j, c) (List.mem_cons_self ..)
    simp only [lin, at_, if_neg h1, Int.mul_zero, Int.zero_add]
    exact lin_absent fun x hx => h x (List.mem_cons_of_mem _ hx)
theorem ltw_irrefl (a : Pw) : ¬ a < a := List.lt_irrefl a
theorem ltw_ne {a b : Pw} (h : a < b) : b ≠ a := fun e => by subst e; exact ltw_irrefl _ h
theorem ltw_tri (a b : Pw) : a < b ∨ a = b ∨ b < a := by
  by_cases h : a < b
  · exact .inl h
  · by_cases h' : b < a
    · exact .inr (.inr h')
    · exact .inr (.inl (List.le_antisymm (List.not_lt.mp h') (List.not_lt.mp h)))
/-- two that have the same sums are the same -/
theorem uniq : ∀ {p q : Pol}, Asc p → Asc q → (∀ x ∈ p, x.2 ≠ 0) → (∀ x ∈ q, x.2 ≠ 0) → (∀ f, lin p f = lin q f) → p = q
  | [], [], _, _, _, _, _ => rfl
  | [], (k, c) :: q, _, hq, _, n, h => by
    have := h (at_ k)
    rw [Asc, List.pairwise_cons] at hq
    simp only [lin, at_, if_true, Int.mul_one] at this
    have z := lin_absent (k := k) (p := q) fun x hx => ltw_ne (hq.1 x hx)
    rw [z] at this
    exact absurd (by omega) (n (k, c) (List.mem_cons_self ..))
  | (k, c) :: p, [], hp, _, n, _, h => by
    have := h (at_ k)
    rw [Asc, List.pairwise_cons] at hp
    simp only [lin, at_, if_true, Int.mul_one] at this
    have z := lin_absent (k := k) (p := p) fun x hx => ltw_ne (hp.1 x hx)
    rw [z] at this
    exact absurd (by omega) (n (k, c) (List.mem_cons_self ..))
  | (k, c) :: p, (j, d) :: q, hp, hq, n, m, h => by
    have hp' := hp
    have hq' := hq
    rw [Asc, List.pairwise_cons] at hp hq
    have e1 := h (at_ k)
    have e2 := h (at_ j)
    have zp := lin_absent (k := k) (p := p) fun x hx => ltw_ne (hp.1 x hx)
    have zq := lin_absent (k := j) (p := q) fun x hx => ltw_ne (hq.1 x hx)
    have a1 : lin ((k, c) :: p) (at_ k) = c := by simp only [lin, zp]; simp [at_]
    have a2 : lin ((j, d) :: q) (at_ j) = d := by simp only [lin, zq]; simp [at_]
    rcases ltw_tri k j with lt | rfl | lt
    · have b : lin ((j, d) :: q) (at_ k) = 0 := lin_absent fun x hx => by
        rcases List.mem_cons.mp hx with rfl | hx
        · exact ltw_ne lt
        · exact ltw_ne (List.lt_trans lt (hq.1 x hx))
      rw [a1, b] at e1
      exact absurd e1 (n (k, c) (List.mem_cons_self ..))
    · rw [a1, a2] at e1
      subst e1
      rw [uniq hp.2 hq.2 (fun x hx => n x (List.mem_cons_of_mem _ hx)) (fun x hx => m x (List.mem_cons_of_mem _ hx)) fun f => by have := h f; simp only [lin] at this; omega]
    · have b : lin ((k, c) :: p) (at_ j) = 0 := lin_absent fun x hx => by
        rcases List.mem_cons.mp hx with rfl | hx
        · exact ltw_ne lt
        · exact ltw_ne (List.lt_trans lt (hp.1 x hx))
      rw [a2, b] at e2
      exact absurd e2.symm (m (j, d) (List.mem_cons_self ..))
theorem Cn.uniq {m n : Nat} {p q : Pol} (hp : Cn m p) (hq : Cn n q) (h : ∀ f, lin p f = lin q f) : p = q := Pl.uniq hp.asc hq.asc hp.nz hq.nz h
/-! ### a table of factors -/
def get (l : Pol) (k : Pw) : Option Int := (l.find? fun x => decide (x.1 = k)).map (·.2)
def put (l : Pol) (k : Pw) (c : Int) : Pol := if (l.any fun x => decide (x.1 = k)) = true then l.map (fun x => if x.1 = k then (x.1, c) else x) else l ++ [(k, c)]
def add1 (l : Pol) (k : Pw) (c : Int) : Pol := put l k ((get l k).getD 0 + c)
abbrev Nd (l : Pol) : Prop := (l.map (·.1)).Nodup
theorem put_keys {l : Pol} {k : Pw} {c : Int} (h : (l.any fun x => decide (x.1 = k)) = true) : (put l k c).map (·.1) = l.map (·.1) := by
  unfold put
  rw [if_pos h, List.map_map]
  apply List.map_congr_left
  intro x _
  simp only [Function.comp]
  split <;> rfl
theorem nd_put {l : Pol} {k : Pw} {c : Int} (h : Nd l) : Nd (put l k c) := by
  by_cases q : (l.any fun x => decide (x.1 = k)) = true
  · unfold Nd; rw [put_keys q]; exact h
  · unfold put Nd
    rw [if_neg q, List.map_append, List.nodup_append]
    refine ⟨h, by simp, fun a ha b hb => ?_⟩
    obtain ⟨x, hx, rfl⟩ := List.mem_map.mp ha
    simp at hb
    subst hb
    intro e
    exact q (List.any_eq_true.mpr ⟨x, hx, decide_eq_true e⟩)
theorem get_none {l : Pol} {k : Pw} (h : ¬ (l.any fun x => decide (x.1 = k)) = true) : get l k = none := by
  unfold get
  rw [Option.map_eq_none_iff, List.find?_eq_none]
  intro x hx e
  exact h (List.any_eq_true.mpr ⟨x, hx, e⟩)
theorem lin_map_put {k : Pw} {c : Int} {f : Pw → Int} : ∀ {l : Pol}, Nd l → (l.any fun x => decide (x.1 = k)) = true → lin (l.map fun x => if x.1 = k then (x.1, c) else x) f = lin l f + (c - (get l k).getD 0) * f k
  | [], _, h => by simp at h
  | (j, d) :: l, hn, h => by
    simp only [Nd, List.map_cons, List.nodup_cons] at hn
    by_cases e : j = k
    · subst e
      have e2 : l.map (fun x => if x.1 = j then (x.1, c) else x) = l := by
        conv => rhs; rw [← List.map_id l]
        apply List.map_congr_left
        intro x hx
        have : x.1 ≠ j := fun z => hn.1 (List.mem_map.mpr ⟨x, hx, z⟩)
        simp [this]
      simp only [List.map_cons, if_true, lin, e2, get, List.find?_cons, decide_true, Option.map_some, Option.getD_some]
      rw [Int.sub_mul]
      omega
    · have h' : (l.any fun x => decide (x.1 = k)) = true := by simpa [e] using h
      have ih := lin_map_put (c := c) (f := f) hn.2 h'
      simp only [List.map_cons, if_neg e, lin, ih, get, List.find?_cons, decide_eq_false e]
      omega
theorem lin_add1 {l : Pol} {k : Pw} {c : Int} (hn : Nd l) (f : Pw → Int) : lin (add1 l k c) f = lin l f + c * f k := by
  unfold add1 put
  by_cases q : (l.any fun x => decide (x.1 = k)) = true
  · rw [if_pos q, lin_map_put hn q]
    congr 2
    omega
  · rw [if_neg q, get_none q, lin_app]
    simp [lin]
theorem mem_put {l : Pol} {k : Pw} {c : Int} {x : Pw × Int} (h : x ∈ put l k c) : x ∈ l ∨ x = (k, c) := by
  unfold put at h
  split at h
  · obtain ⟨y, hy, rfl⟩ := List.mem_map.mp h
    split
    · rename_i e; exact .inr (by rw [e])
    · exact .inl hy
  · rcases List.mem_append.mp h with h | h
    · exact .inl h
    · exact .inr (List.mem_singleton.mp h)
theorem put_len {l : Pol} {k : Pw} {c : Int} : (put l k c).length ≤ l.length + 1 := by
  unfold put
  split
  · rw [List.length_map]; omega
  · rw [List.length_append]; simp
theorem nm_app : ∀ (p q : Pol), nm (p ++ q) = nm p + nm q
  | [], q => by simp [nm]
  | (k, c) :: p, q => by simp only [List.cons_append, nm, nm_app p q]; omega
theorem nm_mem : ∀ {p : Pol} {x : Pw × Int}, x ∈ p → x.2.natAbs ≤ nm p
  | (k, c) :: p, x, h => by
    simp only [nm]
    rcases List.mem_cons.mp h with rfl | h
    · exact Nat.le_add_right _ _
    · have := nm_mem h; omega
theorem nm_map_put {k : Pw} {c : Int} : ∀ {l : Pol}, Nd l → (l.any fun x => decide (x.1 = k)) = true → nm (l.map fun x => if x.1 = k then (x.1, (get l k).getD 0 + c) else x) ≤ nm l + c.natAbs
  | [], _, h => by simp at h
  | (j, d) :: l, hn, h => by
    simp only [Nd, List.map_cons, List.nodup_cons] at hn
    by_cases e : j = k
    · subst e
      have e2 : ∀ y : Int, l.map (fun x => if x.1 = j then (x.1, y) else x) = l := fun y => by
        conv => rhs; rw [← List.map_id l]
        apply List.map_congr_left
        intro x hx
        have : x.1 ≠ j := fun z => hn.1 (List.mem_map.mpr ⟨x, hx, z⟩)
        simp [this]
      simp only [List.map_cons, if_true, nm, e2, get, List.find?_cons, decide_true, Option.map_some, Option.getD_some]
      omega
    · have h' : (l.any fun x => decide (x.1 = k)) = true := by simpa [e] using h
      have ih := nm_map_put (c := c) hn.2 h'
      have eg : get ((j, d) :: l) k = get l k := by simp only [get, List.find?_cons, decide_eq_false e]
      rw [eg]
      simp only [List.map_cons, if_neg e, nm]
      omega
theorem nm_add1 {l : Pol} {k : Pw} {c : Int} (hn : Nd l) : nm (add1 l k c) ≤ nm l + c.natAbs := by
  unfold add1 put
  by_cases q : (l.any fun x => decide (x.1 = k)) = true
  · rw [if_pos q]; exact nm_map_put hn q
  · rw [if_neg q, get_none q, nm_app]
    simp [nm]
theorem nm_perm {p q : Pol} (h : p.Perm q) : nm p = nm q := by
  induction h with
  | nil => rfl
  | cons x _ ih => obtain ⟨k, c⟩ := x; simp only [nm, ih]
  | swap x y l => obtain ⟨k, c⟩ := x; obtain ⟨k', c'⟩ := y; simp only [nm]; omega
  | trans _ _ h1 h2 => exact h1.trans h2
theorem nm_filter (t : Pw × Int → Bool) : ∀ p : Pol, nm (p.filter t) ≤ nm p
  | [] => Nat.le_refl _
  | (k, c) :: p => by
    have := nm_filter t p
    by_cases h : t (k, c) = true
    · simp only [List.filter_cons, h, if_true, nm]; omega
    · have e : (List.filter t ((k, c) :: p)) = List.filter t p := List.filter_cons_of_neg h
      rw [e]
      simp only [nm]; omega
end Pl
end DL
namespace DL
open PySem PySem.Spec PyProof.Rows L2
/-! ### the plain laws: how a mirror is worked out -/
def rb {α β : Type} (r : R α) (f : α → Store → R β) : R β := match r with
  | .ok a S => f a S
  | .err x S => .err x S
  | .bad => .bad
def sS (r : RS) (g : SM) : RS := match r with
  | .ok .nx fr S => g fr S
  | q => q
theorem rb_congr {α β : Type} {r r' : R α} {f : α → Store → R β} (h : r = r') : rb r f = rb r' f := by rw [h]
theorem sS_congr {r r' : RS} {g : SM} (h : r = r') : sS r g = sS r' g := by rw [h]
theorem exS_congr {α : Type} {r r' : R α} {fr : Frame} {k : α → Store → RS} (h : r = r') : exS r fr k = exS r' fr k := by rw [h]
section
variable {α β : Type} {fr fr' : Frame} {S S' : Store} {i : Nat} {d : D}
@[simp] theorem rb_ok {a : α} {f : α → Store → R β} : rb (.ok a S) f = f a S := (rfl)
@[simp] theorem rb_err {x : Exc} {f : α → Store → R β} : rb (.err x S) f = .err x S := (rfl)
@[simp] theorem sS_nx {g : SM} : sS (.ok .nx fr S) g = g fr S := (rfl)
@[simp] theorem sS_rt {g : SM} : sS (.ok (.rt d) fr S) g = .ok (.rt d) fr S := (rfl)
@[simp] theorem sS_bk {g : SM} : sS (.ok .bk fr S) g = .ok .bk fr S := (rfl)
@[simp] theorem sS_ct {g : SM} : sS (.ok .ct fr S) g = .ok .ct fr S := (rfl)
@[simp] theorem sS_err {x : Exc} {g : SM} : sS (.err x fr S) g = .err x fr S := (rfl)
@[simp] theorem exS_err {x : Exc} {k : α → Store → RS} : exS (.err x S) fr k = .err x fr S := (rfl)
theorem bnd_run {m : M α} {f : α → M β} : bnd m f S = rb (m S) f := by unfold bnd rb; cases m S <;> rfl
@[simp] theorem seqS_run {f g : SM} : seqS f g fr S = sS (f fr S) g := by unfold seqS sS; cases f fr S with | ok fl _ _ => cases fl <;> rfl | _ => rfl
@[simp] theorem asgF_run {f : Frame → M D} : asgF i f fr S = exS (f fr S) fr fun d S' => .ok .nx (fr.set i (some d)) S' := (rfl)
@[simp] theorem retF_run {f : Frame → M D} : retF f fr S = exS (f fr S) fr fun d S' => .ok (.rt d) fr S' := (rfl)
@[simp] theorem exprF_run {f : Frame → M D} : exprF f fr S = exS (f fr S) fr fun _ S' => .ok .nx fr S' := (rfl)
@[simp] theorem ifS_run {c : Frame → M Bool} {f g : SM} : ifS c f g fr S = exS (c fr S) fr fun b S' => if b = true then f fr S' else g fr S' := by
  unfold ifS
  refine congrArg (exS (c fr S) fr) (funext fun b => funext fun S' => ?_)
  cases b <;> rfl
@[simp] theorem asgG_run {g : D → Frame → M Frame} {f : Frame → M D} : asgG g f fr S = exS (f fr S) fr fun d S1 => match g d fr S1 with
  | .ok fr' S' => .ok .nx fr' S'
  | _ => .bad := (rfl)
@[simp] theorem parF_run {is : List Nat} {fs : List (Frame → M D)} : parF is fs fr S = exS (seqA fs fr S) fr fun l S' => .ok .nx (setAll fr is l) S' := (rfl)
@[simp] theorem augF_run {g : D → D → M D} {f : Frame → M D} : augF i g f fr S = match fr[i]? with
  | some (some x) => exS (f fr S) fr fun y S1 => exS (g x y S1) fr fun z S2 => .ok .nx (fr.set i (some z)) S2
  | _ => .bad := (rfl)
@[simp] theorem varF_run : varF i fr S = match fr[i]? with
  | some (some d) => .ok d S
  | _ => .bad := (rfl)
@[simp] theorem cstF_run : cstF d fr S = .ok d S := (rfl)
@[simp] theorem binF_run {g : D → D → M D} {f h : Frame → M D} : binF g f h fr S = rb (f fr S) fun x S1 => rb (h fr S1) fun y S2 => g x y S2 := (rfl)
@[simp] theorem unF_run {g : D → M D} {f : Frame → M D} : unF g f fr S = rb (f fr S) g := bnd_run
@[simp] theorem calF_run {g : List D → M D} {fs : List (Frame → M D)} : calF g fs fr S = rb (seqA fs fr S) g := bnd_run
@[simp] theorem seqA_nil : seqA [] fr S = .ok [] S := (rfl)
@[simp] theorem seqA_cons {f : Frame → M D} {fs : List (Frame → M D)} : seqA (f :: fs) fr S = rb (f fr S) fun x S1 => rb (seqA fs fr S1) fun xs S2 => .ok (x :: xs) S2 := by
  rfl
@[simp] theorem tupF_run {fs : List (Frame → M D)} : tupF fs fr S = rb (seqA fs fr S) fun l S' => .ok (.tup l) S' := bnd_run
@[simp] theorem lstF_run {fs : List (Frame → M D)} : lstF fs fr S = rb (seqA fs fr S) fun l S' => .ok (.lst l) S' := bnd_run
@[simp] theorem lstO_run {fs : List (Frame → M D)} : lstO fs fr S = rb (seqA fs fr S) fun l S' => .ok (.ob S'.length) (S' ++ [some (.lst l)]) := bnd_run
@[simp] theorem tbF_run {f : Frame → M D} : tbF f fr S = rb (f fr S) tsb := bnd_run
@[simp] theorem tstF_run {f : Frame → M D} : tstF f fr S = rb (f fr S) truF := bnd_run
@[simp] theorem notF_run {f : Frame → M Bool} : notF f fr S = rb (f fr S) fun b S' => .ok (!b) S' := bnd_run
@[simp] theorem andF_run {f g : Frame → M Bool} : andF f g fr S = rb (f fr S) fun b S' => if b = true then g fr S' else .ok false S' := by
  unfold andF
  rw [bnd_run]
  refine congrArg (rb _) (funext fun b => funext fun S' => ?_)
  cases b <;> rfl
@[simp] theorem orF_run {f g : Frame → M Bool} : orF f g fr S = rb (f fr S) fun b S' => if b = true then .ok true S' else g fr S' := by
  unfold orF
  rw [bnd_run]
  refine congrArg (rb _) (funext fun b => funext fun S' => ?_)
  cases b <;> rfl
@[simp] theorem iteF_run {c : Frame → M Bool} {f g : Frame → M D} : iteF c f g fr S = rb (c fr S) fun b S' => if b = true then f fr S' else g fr S' := by
  unfold iteF
  rw [bnd_run]
  refine congrArg (rb _) (funext fun b => funext fun S' => ?_)
  cases b <;> rfl
@[simp] theorem metF_run {T : String} {g : D → List D → M D} {f : Frame → M D} {fs : List (Frame → M D)} : metF T g f fs fr S = rb (f fr S) fun o S1 => if tyR S1 T o = true then rb (seqA fs fr S1) fun xs S2 => g o xs S2 else .bad := by
  unfold metF
  rw [bnd_run]
  refine congrArg (rb _) (funext fun o => funext fun S1 => ?_)
  rw [bnd_run]
  unfold tyCk
  by_cases h : tyR S1 T o = true
  · rw [if_pos h, if_pos h]; rfl
  · rw [if_neg h, if_neg h]; rfl
@[simp] theorem tsb_bl {b : Bool} : tsb (.bl b) S = .ok b S := (rfl)
@[simp] theorem yesF_run : yesF fr S = .ok true S := (rfl)
@[simp] theorem sliD_run {f : Frame → M D} {g : D → Option Int → Option Int → M D} {lo hi : Option (Frame → M D)} : sliF g f lo hi fr S = rb (f fr S) fun x S1 => rb (prtF lo fr S1) fun l S2 => rb (prtF hi fr S2) fun h S3 => g x l h S3 := (rfl)
@[simp] theorem prt_none : prtF none fr S = .ok none S := (rfl)
@[simp] theorem prt_some {f : Frame → M D} : prtF (some f) fr S = rb (f fr S) fun x S1 => match x with
  | .int i => .ok (some i) S1
  | _ => .bad := by
  rfl
@[simp] theorem tgName_run : tgName i d fr S = .ok (fr.set i (some d)) S := (rfl)
@[simp] theorem tgAll_nil : tgAll [] [] fr S = .ok fr S := (rfl)
@[simp] theorem tgAll_cons {g : D → Frame → M Frame} {gs : List (D → Frame → M Frame)} {ds : List D} : tgAll (g :: gs) (d :: ds) fr S = rb (g d fr S) fun fr1 S1 => tgAll gs ds fr1 S1 := bnd_run
@[simp] theorem tgTup_run {gs : List (D → Frame → M Frame)} {l : List D} (h : l.length = gs.length) : tgTup gs (.tup l) fr S = tgAll gs l fr S := by unfold tgTup; simp only [h]; rfl
@[simp] theorem tgSub_run {fo fi : Frame → M D} : tgSub fo fi d fr S = rb (nox (fo fr) S) fun o S1 => rb (nox (fi fr) S1) fun i S2 => rb (setD o i d S2) fun _ S3 => .ok fr S3 := (rfl)

theorem fold_run {m : M α} {f : α → M β} : bnd m f S = rb (m S) f := bnd_run
end
section
variable {S : Store} {i j : Int} {a b : Str} {n : Nat} {l : List D}
@[simp] theorem add_int : addD (.int i) (.int j) S = .ok (.int (i + j)) S := (rfl)
@[simp] theorem sub_int : subD (.int i) (.int j) S = .ok (.int (i - j)) S := (rfl)
@[simp] theorem neg_int : negD (.int i) S = .ok (.int (-i)) S := (rfl)
@[simp] theorem iadd_int' : iaddD (.int i) (.int j) S = .ok (.int (i + j)) S := (rfl)
@[simp] theorem isub_int' : isubD (.int i) (.int j) S = .ok (.int (i - j)) S := (rfl)
@[simp] theorem lt_int : ltD (.int i) (.int j) S = .ok (.bl (decide (i < j))) S := (rfl)
@[simp] theorem le_int : leD (.int i) (.int j) S = .ok (.bl (decide (i ≤ j))) S := (rfl)
@[simp] theorem gt_int : gtD (.int i) (.int j) S = .ok (.bl (decide (j < i))) S := (rfl)
@[simp] theorem ge_int : geD (.int i) (.int j) S = .ok (.bl (decide (j ≤ i))) S := (rfl)
theorem mod_int (h : 0 < j) : modD (.int i) (.int j) S = .ok (.int (i % j)) S := by unfold modD; simp [h]
theorem mul_int' (h : CMulW i j) : mulD (.int i) (.int j) S = .ok (.int (i * j)) S := by unfold mulD; simp [h]
theorem fdiv_int (h : CDivW i j) : fdivD (.int i) (.int j) S = .ok (.int (i / j)) S := by unfold fdivD; simp [h]
theorem pow_int (h0 : 0 ≤ j) (h1 : j ≤ 1000000) (h2 : i.natAbs < 2 ^ 64) : powD (.int i) (.int j) S = .ok (.int (i ^ j.toNat)) S := by unfold powD; simp [h0, h1, h2]
@[simp] theorem int_int : intD [.int i] S = .ok (.int i) S := (rfl)
@[simp] theorem int_bl {b : Bool} : intD [.bl b] S = .ok (.int (if b then 1 else 0)) S := (rfl)
@[simp] theorem str_str : strD [.str a] S = .ok (.str a) S := (rfl)
@[simp] theorem max2_int : max2D [.int i, .int j] S = .ok (.int (if j > i then j else i)) S := (rfl)
@[simp] theorem min2_int : min2D [.int i, .int j] S = .ok (.int (if j < i then j else i)) S := (rfl)
@[simp] theorem seqL_tup : seqL S (.tup l) = some l := (rfl)
@[simp] theorem seqL_lst : seqL S (.lst l) = some l := (rfl)
@[simp] theorem lstL_lst : lstL S (.lst l) = some l := (rfl)
theorem lstL_ob (h : S[n]? = some (some (.lst l))) : lstL S (.ob n) = some l := by show oLst S[n]? = some l; rw [h]; rfl
theorem seqL_ob (h : S[n]? = some (some (.lst l))) : seqL S (.ob n) = some l := lstL_ob h
theorem ix_ob (h : S[n]? = some (some (.lst l))) {d : D} (e : atI l i = some d) : ixD (.ob n) (.int i) S = .ok d S := by
  unfold ixD
  simp only [seqL_ob h, e]
theorem ix_tup {d : D} (e : atI l i = some d) : ixD (.tup l) (.int i) S = .ok d S := by unfold ixD; simp only [seqL_tup, e]
theorem ix_lst {d : D} (e : atI l i = some d) : ixD (.lst l) (.int i) S = .ok d S := by unfold ixD; simp only [seqL_lst, e]
theorem len_ob (h : S[n]? = some (some (.lst l))) : lenD [.ob n] S = .ok (.int l.length) S := by unfold lenD; simp only [seqL_ob h]
@[simp] theorem len_tup : lenD [.tup l] S = .ok (.int l.length) S := (rfl)
@[simp] theorem len_lst : lenD [.lst l] S = .ok (.int l.length) S := (rfl)
@[simp] theorem tuple_tup : tupleD [.tup l] S = .ok (.tup l) S := (rfl)
@[simp] theorem tuple_lst : tupleD [.lst l] S = .ok (.tup l) S := (rfl)
theorem tuple_ob (h : S[n]? = some (some (.lst l))) : tupleD [.ob n] S = .ok (.tup l) S := by unfold tupleD; simp only [seqL_ob h]
theorem set_ob (h : S[n]? = some (some (.lst l))) {d : D} {k : Nat} (e : ixN l.length i = some k) : setD (.ob n) (.int i) d S = .ok () (S.set n (some (.lst (l.set k d)))) := by
  unfold setD
  simp only [h, oLst, e]
theorem app_ob (h : S[n]? = some (some (.lst l))) {d : D} (z : l.length < sizeLine) : appD (.ob n) [d] S = .ok .non (S.set n (some (.lst (l ++ [d])))) := by
  unfold appD
  simp only [h, oLst, if_pos z]
theorem tyR_ob (h : S[n]? = some (some (.lst l))) : tyR S "list" (.ob n) = true := by
  show (("list" == "list" || "list" == "dict") && oTy S[n]? == some "list") = true
  rw [h]
  simp [oTy]
theorem nox_ok {α : Type} {m : M α} {a : α} {S S' : Store} (h : m S = .ok a S') : nox m S = .ok a S' := by unfold nox; rw [h]
def rN {α : Type} : R α → R α
  | .err _ _ => .bad
  | r => r
@[simp] theorem nox_rN {α : Type} {m : M α} {S : Store} : nox m S = rN (m S) := by unfold nox rN; cases m S <;> rfl
@[simp] theorem rN_ok {α : Type} {a : α} {S : Store} : rN (.ok a S) = .ok a S := (rfl)
/-! ### the state: what is kept, the deck -/
/-- all but n, m are kept -/
def Keep (n m : Nat) (S S' : Store) : Prop := S.length ≤ S'.length ∧ ∀ i, i < S.length → i ≠ n → i ≠ m → S'[i]? = S[i]?
theorem Keep.refl {n m : Nat} {S : Store} : Keep n m S S := ⟨Nat.le_refl _, fun _ _ _ _ => rfl⟩
theorem Keep.trans {n m : Nat} {S S1 S2 : Store} (a : Keep n m S S1) (b : Keep n m S1 S2) : Keep n m S S2 :=
  ⟨Nat.le_trans a.1 b.1, fun i h h1 h2 => (b.2 i (Nat.lt_of_lt_of_le h a.1) h1 h2).trans (a.2 i h h1 h2)⟩
theorem Keep.get {n m : Nat} {S S' : Store} (a : Keep n m S S') {i : Nat} {o : Option O} (h : S[i]? = some o) (h1 : i ≠ n) (h2 : i ≠ m) : S'[i]? = some o :=
  (a.2 i (List.getElem?_eq_some_iff.mp h).1 h1 h2).trans h
theorem Keep.new {n m : Nat} {S S' : Store} {o : Option O} (a : Keep n m S S') : Keep n m S (S' ++ [o]) :=
  ⟨by rw [List.length_append]; exact Nat.le_trans a.1 (Nat.le_add_right _ _), fun i h h1 h2 => by rw [List.getElem?_append_left (Nat.lt_of_lt_of_le h a.1)]; exact a.2 i h h1 h2⟩
theorem Keep.set {n m k : Nat} {S S' : Store} {o : Option O} (a : Keep n m S S') (hk : S.length ≤ k ∨ k = n ∨ k = m) : Keep n m S (S'.set k o) :=
  ⟨by rw [List.length_set]; exact a.1, fun i h h1 h2 => by
    rw [List.getElem?_set_ne (by rcases hk with hk | hk | hk <;> omega)]
    exact a.2 i h h1 h2⟩
/-- the deck at n, its cells at m, with b drawings left -/
structure Dk (n m b : Nat) (S : Store) : Prop where
  ne : n ≠ m
  ex : ∃ (cells : List Int) (k : Int), S[n]? = some (some (.lst [.ob m, .int k])) ∧ S[m]? = some (some (.lst (cells.map .int))) ∧ (∀ c ∈ cells, 0 ≤ c) ∧ 0 ≤ k ∧ k + b ≤ 2 ^ 40
theorem Dk.mono {n m b c : Nat} {S : Store} (h : Dk n m b S) (hc : c ≤ b) : Dk n m c S := by
  obtain ⟨ne, cells, k, h1, h2, h3, h4, h5⟩ := h
  exact ⟨ne, cells, k, h1, h2, h3, h4, by omega⟩
theorem Dk.keep {n m b : Nat} {S S' : Store} (h : Dk n m b S) (e1 : S'[n]? = S[n]?) (e2 : S'[m]? = S[m]?) : Dk n m b S' := by
  obtain ⟨ne, cells, k, h1, h2, h3, h4, h5⟩ := h
  exact ⟨ne, cells, k, e1.trans h1, e2.trans h2, h3, h4, h5⟩
theorem Dk.lt {n m b : Nat} {S : Store} (h : Dk n m b S) : n < S.length ∧ m < S.length := by
  obtain ⟨ne, cells, k, h1, h2, _⟩ := h
  exact ⟨(List.getElem?_eq_some_iff.mp h1).1, (List.getElem?_eq_some_iff.mp h2).1⟩
theorem Dk.new {n m b : Nat} {S : Store} {o : Option O} (h : Dk n m b S) : Dk n m b (S ++ [o]) :=
  h.keep (List.getElem?_append_left h.lt.1) (List.getElem?_append_left h.lt.2)
theorem Dk.set {n m b k : Nat} {S : Store} {o : Option O} (h : Dk n m b S) (h1 : k ≠ n) (h2 : k ≠ m) : Dk n m b (S.set k o) :=
  h.keep (List.getElem?_set_ne h1) (List.getElem?_set_ne h2)
/-- a computation that draws at most c times -/
def Rn {α : Type} (n m c : Nat) (f : M α) (P : α → Prop) : Prop := ∀ b S, Dk n m (b + c) S → ∃ a S', f S = .ok a S' ∧ P a ∧ Dk n m b S' ∧ Keep n m S S'
theorem Rn.mono {α : Type} {n m c c' : Nat} {f : M α} {P P' : α → Prop} (h : Rn n m c f P) (hc : c ≤ c') (hP : ∀ a, P a → P' a) : Rn n m c' f P' := fun b S d => by
  obtain ⟨a, S', h1, h2, h3, h4⟩ := h (b + (c' - c)) S (d.mono (by omega))
  exact ⟨a, S', h1, hP a h2, h3.mono (by omega), h4⟩
/-! ### drawing -/
noncomputable def drawB : SM := seqS (asgG (tgSub (varF 0) (cstF (.int 1))) (binF addD (binF ixD (varF 0) (cstF (.int 1))) (cstF (.int 1)))) (seqS (asgG (tgTup [tgName 2, tgName 3]) (tupF [cstF (.int 0), unF negD (cstF (.int 1))])) (seqS (ifS (tbF (binF gtD (calF lenD [binF ixD (varF 0) (cstF (.int 0))]) (cstF (.int 0)))) (seqS (asgF 3 (binF modD (calF intD [binF ixD (varF 0) (cstF (.int 1))]) (calF lenD [binF ixD (varF 0) (cstF (.int 0))]))) (asgF 2 (binF ixD (binF ixD (varF 0) (cstF (.int 0))) (varF 3)))) (nxF)) (seqS (ifS (tbF (binF geD (varF 2) (binF powD (cstF (.int 10)) (cstF (.int 18))))) (seqS (asgG (tgSub (binF ixD (varF 0) (cstF (.int 0))) (varF 3)) (binF fdivD (calF intD [varF 2]) (varF 1))) (retF (binF modD (calF intD [varF 2]) (varF 1)))) (nxF)) (seqS (asgF 4 (binF addD (binF addD (binF modD (calF intD [varF 2]) (cstF (.int 2147483549))) (binF mulD (cstF (.int 11209)) (binF ixD (varF 0) (cstF (.int 1))))) (cstF (.int 5)))) (retF (binF modD (calF intD [binF modD (calF intD [binF powD (varF 4) (cstF (.int 5))]) (cstF (.int 2147483587))]) (varF 1)))))))
theorem defF_run {N : Nat} {f : SM} {ds : List D} {S : Store} : defF N f ds S = nox (bodyF N f ds) S := rfl
theorem def_rt {N : Nat} {f : SM} {ds : List D} {S S' : Store} {fr : Frame} {d : D} (h : f (frame0 N ds) S = .ok (.rt d) fr S') : defF N f ds S = .ok d S' := by
  unfold defF
  refine nox_ok ?_
  unfold bodyF
  rw [h]
  rfl
theorem def_nx {N : Nat} {f : SM} {ds : List D} {S S' : Store} {fr : Frame} (h : f (frame0 N ds) S = .ok .nx fr S') : defF N f ds S = .ok .non S' := by
  unfold defF
  refine nox_ok ?_
  unfold bodyF
  rw [h]
  rfl
theorem atI_nat {α : Type} {x : α} {l : List α} {i : Int} {k : Nat} (hi : i = k) (h : l[k]? = some x) : atI l i = some x := by
  have := (List.getElem?_eq_some_iff.mp h).1
  have e : ixN l.length i = some k := by
    unfold ixN
    subst hi
    simp [this]
  unfold atI
  rw [e]
  exact h
theorem ixN_nat {n k : Nat} {i : Int} (hi : i = k) (h : k < n) : ixN n i = some k := by
  unfold ixN
  subst hi
  simp [h]
theorem atI_0 {α : Type} {x : α} {l : List α} : atI (x :: l) 0 = some x := atI_nat (k := 0) rfl rfl
theorem atI_1 {α : Type} {x y : α} {l : List α} : atI (x :: y :: l) 1 = some y := atI_nat (k := 1) rfl rfl
theorem draw_run {n m : Nat} {many : Int} (h0 : 0 < many) (h1 : many < 2 ^ 40) : Rn n m 1 (defF 5 drawB [.ob n, .int many]) fun d => ∃ r : Int, d = .int r ∧ 0 ≤ r ∧ r < many := by
  rintro b S ⟨ne, cells, k, e1, e2, h3, h4, h5⟩
  have f0 : frame0 5 [D.ob n, .int many] = [some (.ob n), some (.int many), none, none, none] := rfl
  have ln : n < S.length := (List.getElem?_eq_some_iff.mp e1).1
  have lm : m < S.length := (List.getElem?_eq_some_iff.mp e2).1
  -- the counter
  generalize hS1 : S.set n (some (.lst [.ob m, .int (k + 1)])) = S1
  have g1 : S1[n]? = some (some (.lst [.ob m, .int (k + 1)])) := by rw [← hS1]; exact List.getElem?_set_self ln
  have g2 : S1[m]? = some (some (.lst (cells.map .int))) := by rw [← hS1, List.getElem?_set_ne ne]; exact e2
  have k1 : Keep n m S S1 := by rw [← hS1]; exact Keep.refl.set (.inr (.inl rfl))
  have i0 : ixN ([D.ob m, .int k] : List D).length 1 = some 1 := rfl
  have d1 : Dk n m b S1 := ⟨ne, cells, k + 1, g1, g2, h3, by omega, by omega⟩
  have m10 : CMulW 11209 (k + 1) := wide_mul (a := 20) (b := 41) (by decide) (by omega) (by decide) (by decide) (by decide)
  have p18 : powD (.int 10) (.int 18) S1 = .ok (.int 1000000000000000000) S1 := pow_int (by decide) (by decide) (by decide)
  -- where no great cell is met
  have small : ∀ (cell : Int) (v : Option D), 0 ≤ cell → cell < 10 ^ 18 → ∃ r fr', sS (sS (.ok .nx [some (.ob n), some (.int many), some (.int cell), v, none] S1) (ifS (tbF (binF geD (varF 2) (binF powD (cstF (.int 10)) (cstF (.int 18))))) (seqS (asgG (tgSub (binF ixD (varF 0) (cstF (.int 0))) (varF 3)) (binF fdivD (calF intD [varF 2]) (varF 1))) (retF (binF modD (calF intD [varF 2]) (varF 1)))) (nxF)))
      (seqS (asgF 4 (binF addD (binF addD (binF modD (calF intD [varF 2]) (cstF (.int 2147483549))) (binF mulD (cstF (.int 11209)) (binF ixD (varF 0) (cstF (.int 1))))) (cstF (.int 5)))) (retF (binF modD (calF intD [binF modD (calF intD [binF powD (varF 4) (cstF (.int 5))]) (cstF (.int 2147483587))]) (varF 1)))) = .ok (.rt (.int r)) fr' S1 ∧ 0 ≤ r ∧ r < many := by
    intro cell v c0 c1
    have hc : ¬ (1000000000000000000 ≤ cell) := by omega
    have ha : 0 ≤ cell % 2147483549 + 11209 * (k + 1) + 5 := by omega
    have hb : cell % 2147483549 + 11209 * (k + 1) + 5 < 2 ^ 60 := by omega
    have pw : ∀ S : Store, powD (.int (cell % 2147483549 + 11209 * (k + 1) + 5)) (.int 5) S = .ok (.int ((cell % 2147483549 + 11209 * (k + 1) + 5) ^ 5)) S := fun S => pow_int (by decide) (by decide) (by omega)
    refine ⟨((cell % 2147483549 + 11209 * (k + 1) + 5) ^ 5 % 2147483587) % many, [some (.ob n), some (.int many), some (.int cell), v, some (.int (cell % 2147483549 + 11209 * (k + 1) + 5))], ?_, Int.emod_nonneg _ (by omega), Int.emod_lt_of_pos _ h0⟩
    simp [p18, hc, ix_ob g1 atI_1, mul_int' m10, mod_int, pw, h0, nxF]
  cases cells with
  | nil =>
    obtain ⟨r, fr', q1, q2, q3⟩ := small 0 (some (.int (-1))) (by decide) (by decide)
    refine ⟨.int r, S1, def_rt (fr := fr') ?_, ⟨r, rfl, q2, q3⟩, d1, k1⟩
    rw [f0, ← q1]
    simp [drawB, ix_ob e1 atI_1, ix_ob g1 atI_0, set_ob e1 i0, hS1, len_ob g2, nxF, tgTup]
  | cons c0 cr =>
    generalize hcs : c0 :: cr = cells at *
    have hl : 0 < cells.length := by rw [← hcs]; exact Nat.succ_pos _
    have hlen : (cells.map D.int).length = cells.length := List.length_map _
    have hpos : (0 : Int) < (cells.length : Int) := by omega
    obtain ⟨at_, hat⟩ : ∃ a : Nat, (k + 1) % (cells.length : Int) = a := ⟨((k + 1) % (cells.length : Int)).toNat, by have := Int.emod_nonneg (k + 1) (show (cells.length : Int) ≠ 0 by omega); omega⟩
    have hlt : at_ < cells.length := by have := Int.emod_lt_of_pos (k + 1) hpos; omega
    have hc : (cells.map D.int)[at_]? = some (.int cells[at_]) := by rw [List.getElem?_map, List.getElem?_eq_getElem hlt]; rfl
    have ixc : ixD (.ob m) (.int (k + 1) ) S1 = ixD (.ob m) (.int (k + 1)) S1 := rfl
    have ixa : ixD (.ob m) (.int (at_ : Nat)) S1 = .ok (.int cells[at_]) S1 := ix_ob g2 (atI_nat rfl hc)
    have nn : 0 ≤ cells[at_] := h3 _ (List.getElem_mem hlt)
    by_cases big : 1000000000000000000 ≤ cells[at_]
    · refine ⟨.int (cells[at_] % many), S1.set m (some (.lst ((cells.map D.int).set at_ (.int (cells[at_] / many))))), def_rt (fr := [some (.ob n), some (.int many), some (.int cells[at_]), some (.int (at_ : Nat)), none]) ?_, ⟨_, rfl, Int.emod_nonneg _ (by omega), Int.emod_lt_of_pos _ h0⟩, ?_, k1.set (.inr (.inr rfl))⟩
      · have dv : fdivD (.int cells[at_]) (.int many) S1 = .ok (.int (cells[at_] / many)) S1 := fdiv_int (wide_div (b := 41) h0 (by omega) (by decide) (by decide))
        rw [f0]
        simp [drawB, ix_ob e1 atI_1, ix_ob g1 atI_0, ix_ob g1 atI_1, set_ob e1 i0, hS1, len_ob g2, nxF, tgTup, hl, mod_int hpos, hat, ixa, p18, big, dv, set_ob g2 (ixN_nat rfl (by rw [hlen]; exact hlt)), mod_int h0]
      · refine ⟨ne, cells.set at_ (cells[at_] / many), k + 1, ?_, ?_, fun c hc => ?_, by omega, by omega⟩
        · rw [List.getElem?_set_ne (Ne.symm ne)]; exact g1
        · rw [List.getElem?_set_self (by rw [← hS1, List.length_set]; exact lm), List.map_set]
        · rcases List.mem_or_eq_of_mem_set hc with hc | hc
          · exact h3 c hc
          · rw [hc]; exact Int.ediv_nonneg nn (by omega)
    · obtain ⟨r, fr', q1, q2, q3⟩ := small cells[at_] (some (.int (at_ : Nat))) nn (by omega)
      refine ⟨.int r, S1, def_rt (fr := fr') ?_, ⟨r, rfl, q2, q3⟩, d1, k1⟩
      rw [f0, ← q1]
      simp [drawB, ix_ob e1 atI_1, ix_ob g1 atI_0, ix_ob g1 atI_1, set_ob e1 i0, hS1, len_ob g2, nxF, tgTup, hl, mod_int hpos, hat, ixa]
/-- tests whose values are known -/
theorem or_known {f g : Frame → M Bool} {fr : Frame} {S : Store} {b c : Bool} (h1 : f fr S = .ok b S) (h2 : g fr S = .ok c S) : orF f g fr S = .ok (b || c) S := by
  rw [orF_run, h1, rb_ok]
  cases b with
  | true => rfl
  | false => rw [if_neg Bool.false_ne_true, h2]; rfl
theorem and_known {f g : Frame → M Bool} {fr : Frame} {S : Store} {b c : Bool} (h1 : f fr S = .ok b S) (h2 : g fr S = .ok c S) : andF f g fr S = .ok (b && c) S := by
  rw [andF_run, h1, rb_ok]
  cases b with
  | false => rfl
  | true => rw [if_pos rfl, h2]; rfl
theorem tb_known {f : Frame → M D} {fr : Frame} {S : Store} {b : Bool} (h : f fr S = .ok (.bl b) S) : tbF f fr S = .ok b S := by rw [tbF_run, h]; rfl
theorem bin_known {g : D → D → M D} {f h : Frame → M D} {fr : Frame} {S : Store} {x y : D} {r : R D} (h1 : f fr S = .ok x S) (h2 : h fr S = .ok y S) (h3 : g x y S = r) : binF g f h fr S = r := by rw [binF_run, h1, rb_ok, h2, rb_ok, h3]
theorem ifs_asg {c : Frame → M Bool} {f : Frame → M D} {fr fr' : Frame} {S : Store} {b : Bool} {d d0 : D} {i : Nat} (hc : c fr S = .ok b S) (hf : f fr S = .ok d S) (h0 : fr[i]? = some (some d0)) (h1 : fr.set i (some (if b = true then d else d0)) = fr') : ifS c (asgF i f) nxF fr S = .ok .nx fr' S := by
  rw [ifS_run, hc, exS_ok]
  cases b with
  | true => rw [if_pos rfl, asgF_run, hf, exS_ok, ← h1, if_pos rfl]
  | false =>
    rw [if_neg Bool.false_ne_true, ← h1, if_neg Bool.false_ne_true]
    have : fr.set i (some d0) = fr := by
      obtain ⟨hi, e⟩ := List.getElem?_eq_some_iff.mp h0
      rw [← e]
      exact List.set_getElem_self hi
    rw [this]
    rfl
theorem seq_known {f g : SM} {fr fr1 : Frame} {S S1 : Store} {r : RS} (h1 : f fr S = .ok .nx fr1 S1) (h2 : g fr1 S1 = r) : seqS f g fr S = r := by rw [seqS_run, h1, sS_nx, h2]
theorem asg_known {f : Frame → M D} {fr : Frame} {S S1 : Store} {d : D} {i : Nat} (h : f fr S = .ok d S1) : asgF i f fr S = .ok .nx (fr.set i (some d)) S1 := by rw [asgF_run, h, exS_ok]
end
end DL
namespace DL
open PySem PySem.Spec PyProof.Rows L2
/-! ### loops over what does not change -/
def loopL (g : D → Frame → M Frame) (body : SM) : List D → SM
  | [], fr, S => .ok .nx fr S
  | x :: r, fr, S => match g x fr S with
    | .ok fr1 S1 => (match body fr1 S1 with
      | .ok .nx fr2 S2 => loopL g body r fr2 S2
      | .ok .ct fr2 S2 => loopL g body r fr2 S2
      | .ok .bk fr2 S2 => .ok .nx fr2 S2
      | q => q)
    | _ => .bad
def mapS (h : D → M D) : List D → M (List D)
  | [] => ret []
  | x :: r => bnd (h x) fun y => bnd (mapS h r) fun ys => ret (y :: ys)
def itL (g : D → Frame → M Frame) (t : Frame → M Bool) (elt : Frame → M D) (fr : Frame) : List D → M (List D)
  | [] => ret []
  | x :: r => bnd (g x fr) fun fr1 => bnd (t fr1) fun b => if b = true then bnd (elt fr1) fun y => bnd (itL g t elt fr r) fun ys => ret (y :: ys) else itL g t elt fr r
section
variable {n m : Nat} {S S' S1 : Store} {fr : Frame} {src : Src} {xs : List D} {f : Frame → M Src} {g : D → Frame → M Frame} {body : SM} {j : Nat} {t : Frame → M Bool} {elt : Frame → M D}
theorem forL_const (hsrc : ∀ S, src S = some xs) : ∀ (l : List D) (fr : Frame) (S : Store), forL src xs g body l fr S = loopL g body l fr S
  | [], fr, S => by unfold forL loopL; rw [if_pos (hsrc S)]
  | x :: r, fr, S => by
    unfold forL loopL
    rw [if_pos (hsrc S)]
    cases g x fr S with
    | ok fr1 S1 =>
      dsimp only
      cases body fr1 S1 with
      | ok fl fr2 S2 => cases fl <;> first | exact forL_const hsrc r fr2 S2 | rfl
      | err x fr2 S2 => rfl
      | bad => rfl
    | err x S1 => rfl
    | bad => rfl
theorem for_ok (hf : f fr S = .ok src S1) (hsrc : ∀ S, src S = some xs) : forF f g body fr S = loopL g body xs fr S1 := by
  unfold forF
  rw [hf, exS_ok, hsrc S1]
  exact forL_const hsrc xs fr S1
theorem loop_inv {I : Nat → Frame → Store → Prop} : ∀ (l : List D) (k : Nat) (fr : Frame) (S : Store), I k fr S →
    (∀ i x fr S, l[i]? = some x → I (k + i) fr S → ∃ fr2 S2, (body (fr.set j (some x)) S = .ok .nx fr2 S2 ∨ body (fr.set j (some x)) S = .ok .ct fr2 S2) ∧ I (k + i + 1) fr2 S2) →
    ∃ fr' S', loopL (tgName j) body l fr S = .ok .nx fr' S' ∧ I (k + l.length) fr' S'
  | [], k, fr, S, h, _ => ⟨fr, S, rfl, h⟩
  | x :: r, k, fr, S, h, step => by
    obtain ⟨fr2, S2, e, h2⟩ := step 0 x fr S rfl h
    obtain ⟨fr', S', e', h'⟩ := loop_inv r (k + 1) fr2 S2 (by simpa using h2) fun i y fr S hy hi => by
      have := step (i + 1) y fr S (by simpa using hy) (by rw [Nat.add_comm i 1, ← Nat.add_assoc]; exact hi)
      rw [Nat.add_assoc k 1 i, Nat.add_comm 1 i]
      exact this
    refine ⟨fr', S', ?_, by rw [List.length_cons, Nat.add_comm r.length 1, ← Nat.add_assoc]; exact h'⟩
    unfold loopL
    rw [tgName_run]
    dsimp only
    rcases e with e | e <;> rw [e] <;> exact e'
/-- a for over data: the invariant after i of its items -/
theorem for_inv {I : Nat → Frame → Store → Prop} (hf : f fr S = .ok src S1) (hsrc : ∀ S, src S = some xs) (h0 : I 0 fr S1)
    (step : ∀ i x fr S, xs[i]? = some x → I i fr S → ∃ fr2 S2, (body (fr.set j (some x)) S = .ok .nx fr2 S2 ∨ body (fr.set j (some x)) S = .ok .ct fr2 S2) ∧ I (i + 1) fr2 S2) :
    ∃ fr' S', forF f (tgName j) body fr S = .ok .nx fr' S' ∧ I xs.length fr' S' := by
  rw [for_ok hf hsrc]
  obtain ⟨fr', S', e, h⟩ := loop_inv (I := I) xs 0 fr S1 h0 fun i x fr S hx hi => by
    rw [Nat.zero_add] at hi ⊢
    exact step i x fr S hx hi
  exact ⟨fr', S', e, by simpa using h⟩
theorem it_tup {fe : Frame → M D} {l : List D} (h : fe fr S = .ok (.tup l) S1) : ∃ src, itF fe fr S = .ok src S1 ∧ ∀ S, src S = some l := by
  refine ⟨srcSeq (.tup l), ?_, fun _ => rfl⟩
  unfold itF
  rw [bnd_ok h]
  rfl
theorem it_lst {fe : Frame → M D} {l : List D} (h : fe fr S = .ok (.lst l) S1) : ∃ src, itF fe fr S = .ok src S1 ∧ ∀ S, src S = some l := by
  refine ⟨srcSeq (.lst l), ?_, fun _ => rfl⟩
  unfold itF
  rw [bnd_ok h]
  rfl
theorem it_rng1 {fs : List (Frame → M D)} {k : Int} (h : seqA fs fr S = .ok [.int k] S1) (h0 : -(2 ^ 62) ≤ k) (h1 : k < 2 ^ 62) : ∃ src, rngF rng1 fs fr S = .ok src S1 ∧ ∀ S, src S = some (rngL 0 k.toNat) := by
  refine ⟨fun _ => some (rngL 0 k.toNat), ?_, fun _ => rfl⟩
  unfold rngF
  rw [bnd_ok h]
  exact if_pos ⟨h0, h1⟩
theorem it_rng2 {fs : List (Frame → M D)} {i k : Int} (h : seqA fs fr S = .ok [.int i, .int k] S1) (h0 : -(2 ^ 62) ≤ i) (h1 : i < 2 ^ 62) (h2 : -(2 ^ 62) ≤ k) (h3 : k < 2 ^ 62) : ∃ src, rngF rng2 fs fr S = .ok src S1 ∧ ∀ S, src S = some (rngL i (k - i).toNat) := by
  refine ⟨fun _ => some (rngL i (k - i).toNat), ?_, fun _ => rfl⟩
  unfold rngF
  rw [bnd_ok h]
  exact if_pos ⟨h0, h1, h2, h3⟩
theorem rngL_get {lo : Int} {c i : Nat} {x : D} (h : (rngL lo c)[i]? = some x) : x = .int (lo + i) ∧ i < c := by
  unfold rngL at h
  rw [List.getElem?_map] at h
  by_cases hi : i < c
  · rw [List.getElem?_range hi] at h
    exact ⟨(Option.some.inj h).symm, hi⟩
  · rw [List.getElem?_eq_none (by simpa using hi)] at h
    cases h
theorem rngL_len {lo : Int} {c : Nat} : (rngL lo c).length = c := by simp [rngL]
/-! ### comprehensions over what does not change -/
theorem cmpL_ok (hsrc : ∀ S, src S = some xs) : ∀ (l : List D) (S : Store) (ys : List D) (S' : Store), itL g t elt fr l S = .ok ys S' → cmpL src xs g t elt fr l S = .ok ys S'
  | [], S, ys, S', h => by
    unfold cmpL
    rw [if_pos (hsrc S)]
    exact h
  | x :: r, S, ys, S', h => by
    unfold itL at h
    unfold cmpL
    rw [if_pos (hsrc S)]
    cases e1 : g x fr S with
    | ok fr1 S1 =>
      rw [bnd_ok e1] at h
      dsimp only
      cases e2 : t fr1 S1 with
      | ok b S2 =>
        rw [bnd_ok e2] at h
        cases b with
        | true =>
          rw [if_pos rfl] at h
          dsimp only
          cases e3 : elt fr1 S2 with
          | ok y S3 =>
            rw [bnd_ok e3] at h
            dsimp only
            cases e4 : itL g t elt fr r S3 with
            | ok zs S4 =>
              rw [bnd_ok e4] at h
              rw [bnd_ok (cmpL_ok hsrc r S3 zs S4 e4)]
              exact h
            | err x S4 => rw [bnd_err e4] at h; cases h
            | bad => rw [bnd_bad e4] at h; cases h
          | err x S3 => rw [bnd_err e3] at h; cases h
          | bad => rw [bnd_bad e3] at h; cases h
        | false =>
          rw [if_neg Bool.false_ne_true] at h
          exact cmpL_ok hsrc r S2 ys S' h
      | err x S2 => rw [bnd_err e2] at h; cases h
      | bad => rw [bnd_bad e2] at h; cases h
    | err x S1 => rw [bnd_err e1] at h; cases h
    | bad => rw [bnd_bad e1] at h; cases h
theorem itL_map : ∀ (l : List D), itL (tgName j) yesF elt fr l = mapS (fun x => elt (fr.set j (some x))) l
  | [] => rfl
  | x :: r => by
    unfold itL mapS
    rw [itL_map r]
    rfl
theorem cmpF_ok {vs : List Nat} {ys : List D} (hf : f fr S = .ok src S1) (hsrc : ∀ S, src S = some xs) (hlen : xs.length ≤ sizeLine) (h : itL g t elt (wipeF fr vs) xs S1 = .ok ys S') : cmpF vs f g t elt fr S = .ok ys S' := by
  unfold cmpF
  rw [bnd_ok hf]
  show (match src S1 with
    | some xs => if xs.length ≤ sizeLine then nox (cmpL src xs g t elt (wipeF fr vs) xs) S1 else .bad
    | none => .bad) = _
  rw [hsrc S1]
  exact (if_pos hlen).trans (nox_ok (cmpL_ok hsrc xs S1 ys S' h))
theorem cmpD_ok {vs : List Nat} {ys : List D} (hf : f fr S = .ok src S1) (hsrc : ∀ S, src S = some xs) (hlen : xs.length ≤ sizeLine) (h : itL g t elt (wipeF fr vs) xs S1 = .ok ys S') : cmpD vs f g t elt fr S = .ok (.lst ys) S' := by
  unfold cmpD
  rw [bnd_ok (cmpF_ok hf hsrc hlen h)]
  rfl
theorem cmpO_ok {vs : List Nat} {ys : List D} (hf : f fr S = .ok src S1) (hsrc : ∀ S, src S = some xs) (hlen : xs.length ≤ sizeLine) (h : itL g t elt (wipeF fr vs) xs S1 = .ok ys S') : cmpO vs f g t elt fr S = .ok (.ob S'.length) (S' ++ [some (.lst ys)]) := by
  unfold cmpO
  rw [bnd_ok (cmpF_ok hf hsrc hlen h)]
  rfl
theorem mapS_pure {h : D → M D} {φ : D → D} : ∀ (l : List D), (∀ x ∈ l, h x S = .ok (φ x) S) → mapS h l S = .ok (l.map φ) S
  | [], _ => rfl
  | x :: r, H => by
    unfold mapS
    rw [bnd_ok (H x List.mem_cons_self), bnd_ok (mapS_pure r fun y hy => H y (List.mem_cons_of_mem _ hy))]
    rfl
theorem mapS_inv {h : D → M D} {P : D → D → Prop} {I : Nat → Store → Prop} : ∀ (l : List D) (S : Store), I l.length S → (∀ k x S, x ∈ l → I (k + 1) S → ∃ y S', h x S = .ok y S' ∧ P x y ∧ I k S') → ∃ ys S', mapS h l S = .ok ys S' ∧ Paired P l ys ∧ I 0 S'
  | [], S, h0, _ => ⟨[], S, rfl, .nil, h0⟩
  | x :: r, S, h0, H => by
    obtain ⟨y, S1, e1, p1, i1⟩ := H r.length x S List.mem_cons_self h0
    obtain ⟨ys, S2, e2, p2, i2⟩ := mapS_inv r S1 i1 fun k z S hz => H k z S (List.mem_cons_of_mem _ hz)
    refine ⟨y :: ys, S2, ?_, .cons p1 p2, i2⟩
    unfold mapS
    rw [bnd_ok e1, bnd_ok e2]
    rfl
/-! ### the deck -/
noncomputable def deckB : SM := retF (lstO [cmpO [1] (itF (sliF sliD (varF 0) none (some (cstF (.int 63))))) (tgName 1) (yesF) (calF absD [varF 1]), cstF (.int 0)])
def absT : D → D
  | .int i => .int (if i < 0 then -i else i)
  | d => d
theorem cut_63 {l : List D} (h : l.length ≤ 63) : cutD l none (some 63) = l := by
  apply cut_whole
  unfold HT.sIx
  constructor
  · rfl
  · simp
    omega
theorem deck_run {ns : List Int} (h : ns.length ≤ 63) : ∃ S', defF 2 deckB [.lst (ns.map .int)] S = .ok (.ob (S.length + 1)) S' ∧ Dk (S.length + 1) S.length (2 ^ 40) S' ∧ S'.length = S.length + 2 ∧ ∀ i, i < S.length → S'[i]? = S[i]? := by
  have f0 : frame0 2 [D.lst (ns.map .int)] = [some (.lst (ns.map .int)), none] := rfl
  have hl : (ns.map D.int).length ≤ 63 := by simpa using h
  obtain ⟨src, e1, e2⟩ := it_lst (fr := [some (.lst (ns.map .int)), none]) (S := S) (S1 := S) (fe := sliF sliD (varF 0) none (some (cstF (.int 63)))) (l := ns.map .int) (by simp [sliD, cut_63 hl])
  have m1 := mapS_pure (S := S) (h := fun x => calF absD [varF 1] ((wipeF [some (.lst (ns.map .int)), none] [1]).set 1 (some x))) (φ := absT) (ns.map .int) (by
    intro x hx
    obtain ⟨i, _, rfl⟩ := List.mem_map.mp hx
    simp [wipeF, absD, absT])
  rw [← itL_map] at m1
  have c1 := cmpO_ok e1 e2 (by rw [sizeLine_eq]; omega) m1
  have hcl : (ns.map D.int).map absT = (ns.map fun i => if i < 0 then -i else i).map D.int := by simp [absT]
  rw [hcl] at c1
  refine ⟨(S ++ [some (.lst ((ns.map fun i => if i < 0 then -i else i).map D.int))]) ++ [some (.lst [.ob S.length, .int 0])], def_rt (fr := [some (.lst (ns.map .int)), none]) ?_, ?_, ?_, ?_⟩
  · rw [f0]
    unfold deckB
    simp only [retF_run, lstO_run, seqA_cons, c1, rb_ok, cstF_run, seqA_nil, exS_ok]
    simp
  · refine ⟨by omega, ns.map fun i => if i < 0 then -i else i, 0, ?_, ?_, fun c hc => ?_, Int.le_refl _, by decide⟩
    · rw [List.getElem?_append_right (by simp)]
      simp
    · rw [List.getElem?_append_left (by simp), List.getElem?_append_right (Nat.le_refl _)]
      simp
    · obtain ⟨i, _, rfl⟩ := List.mem_map.mp hc
      split <;> omega
  · simp
  · intro i hi
    rw [List.getElem?_append_left (by simp; omega), List.getElem?_append_left hi]
/-- items[draw(deck, len(items))] -/
theorem one_run {F : List D → M D} (hF : ∀ many : Int, 0 < many → many < 2 ^ 40 → Rn n m 1 (F [.ob n, .int many]) fun d => ∃ r : Int, d = .int r ∧ 0 ≤ r ∧ r < many) {d : D} {l : List D} (hd : d = .lst l ∨ d = .tup l) (h0 : l ≠ []) (h1 : l.length < 2 ^ 30) :
    Rn n m 1 (defF 2 (retF (binF ixD (varF 1) (calF (fun xs => F (xs ++ [])) [varF 0, calF lenD [varF 1]]))) [.ob n, d]) fun x => x ∈ l := by
  intro b S dk
  have hl : 0 < l.length := List.length_pos_iff.mpr h0
  obtain ⟨r, S', e, ⟨i, rfl, i0, i1⟩, dk', k'⟩ := hF l.length (by omega) (by omega) b S dk
  obtain ⟨k, rfl⟩ : ∃ k : Nat, i = k := ⟨i.toNat, by omega⟩
  have hk : k < l.length := by omega
  refine ⟨l[k], S', def_rt (fr := [some (.ob n), some d]) ?_, List.getElem_mem hk, dk', k'⟩
  have f0 : frame0 2 [D.ob n, d] = [some (.ob n), some d] := rfl
  have hx : ixD d (.int k) S' = .ok l[k] S' := by
    rcases hd with rfl | rfl
    · exact ix_lst (atI_nat rfl (List.getElem?_eq_getElem hk))
    · exact ix_tup (atI_nat rfl (List.getElem?_eq_getElem hk))
  have hlen : lenD [d] S = .ok (.int l.length) S := by rcases hd with rfl | rfl <;> rfl
  rw [f0]
  simp [hlen, e, hx]
end
end DL
namespace DL
open PySem PySem.Spec PyProof.Rows L2
open SeqAt (shaped)
/-! ### data: texts, ints -/
theorem pys_strs : ∀ l : List Str, pys (l.map .str) = some (l.map .str)
  | [] => rfl
  | a :: r => by simp only [List.map_cons, pys, py, pys_strs r]
theorem pys_ints : ∀ l : List Int, pys (l.map .int) = some (l.map .int)
  | [] => rfl
  | a :: r => by simp only [List.map_cons, pys, py, pys_ints r]
theorem lay_strs : ∀ l : List Str, (∀ a ∈ l, PyData.strOk a = true) → PyData.canLayAll0 (l.map .str) = true
  | [], _ => rfl
  | a :: r, h => by simp [PyData.canLayAll0, PyData.canLay0, h a List.mem_cons_self, lay_strs r fun b hb => h b (List.mem_cons_of_mem _ hb)]
theorem lay_ints : ∀ l : List Int, PyData.canLayAll0 (l.map .int) = true
  | [] => rfl
  | a :: r => by simp [PyData.canLayAll0, PyData.canLay0, lay_ints r]
theorem dep_strs : ∀ l : List Str, PyData.depthAll (l.map .str) ≤ 1
  | [] => by simp [PyData.depthAll]
  | a :: r => by have := dep_strs r; simp [PyData.depthAll, PyData.depth] ; omega
theorem dep_ints : ∀ l : List Int, PyData.depthAll (l.map .int) ≤ 1
  | [] => by simp [PyData.depthAll]
  | a :: r => by have := dep_ints r; simp [PyData.depthAll, PyData.depth] ; omega
theorem sh_str {a : Str} (h : PyData.strOk a = true) : shaped (.str a) = true := by
  unfold shaped
  simp [PyData.canLay0, PyData.depth, h]
@[simp] theorem sh_int {a : Int} : shaped (.int a) = true := (rfl)
theorem sh_tup {l : List PyData} (h : PyData.canLayAll0 l = true) (d : PyData.depthAll l ≤ 62) : shaped (.tuple l) = true := by
  unfold shaped
  have d' : PyData.depthAll l + 1 ≤ 64 := by omega
  simp [PyData.canLay0, h, PyData.depth, d']
theorem sh_lst {l : List PyData} (h : PyData.canLayAll0 l = true) (d : PyData.depthAll l ≤ 62) : shaped (.list l) = true := by
  unfold shaped
  have d' : PyData.depthAll l + 1 ≤ 64 := by omega
  simp [PyData.canLay0, h, PyData.depth, d']
theorem any_strs (a : Str) : ∀ l : List Str, ((l.map PyData.str).any fun z => PyData.eqv z (.str a)) = decide (a ∈ l)
  | [] => rfl
  | b :: r => by
    rw [List.map_cons, List.any_cons, any_strs a r]
    simp only [PyData.eqv, List.mem_cons]
    by_cases h : a = b
    · subst h; simp
    · have : (b == a) = false := by simpa using fun z => h z.symm
      simp [this, h]
theorem any_ints (a : Int) : ∀ l : List Int, ((l.map PyData.int).any fun z => PyData.eqv z (.int a)) = decide (a ∈ l)
  | [] => rfl
  | b :: r => by
    rw [List.map_cons, List.any_cons, any_ints a r]
    simp only [PyData.eqv, List.mem_cons]
    by_cases h : a = b
    · subst h; simp
    · have : (b == a) = false := by simpa using fun z => h z.symm
      simp [this, h]
section
variable {S : Store} {a b : Str} {i j : Int} {n : Nat}
@[simp] theorem eq_str : eqD (.str a) (.str b) S = .ok (.bl (decide (a = b))) S := (rfl)
@[simp] theorem ne_str : neD (.str a) (.str b) S = .ok (.bl (!decide (a = b))) S := (rfl)
theorem beq_dec {α : Type} [DecidableEq α] {x y : α} : (x == y) = decide (x = y) := by
  rw [Bool.eq_iff_iff]
  simp
@[simp] theorem eq_int : eqD (.int i) (.int j) S = .ok (.bl (decide (i = j))) S := by
  show (if shaped (.int i) = true ∧ shaped (.int j) = true then R.ok (D.bl (i == j)) S else .bad) = _
  rw [if_pos ⟨rfl, rfl⟩, beq_dec]
@[simp] theorem ne_int : neD (.int i) (.int j) S = .ok (.bl (!decide (i = j))) S := by
  show (if shaped (.int i) = true ∧ shaped (.int j) = true then R.ok (D.bl (!(i == j))) S else .bad) = _
  rw [if_pos ⟨rfl, rfl⟩, beq_dec]
@[simp] theorem in_str : inD (.str a) (.str b) S = .ok (.bl (strIn a b)) S := (rfl)
@[simp] theorem nin_str : notInD (.str a) (.str b) S = .ok (.bl (!strIn a b)) S := (rfl)
theorem in_tupS (l : List Str) (h : PyData.strOk a = true := by decide +kernel) (hl : ∀ a ∈ l, PyData.strOk a = true := by decide +kernel) : inD (.str a) (.tup (l.map .str)) S = .ok (.bl (decide (a ∈ l))) S := by
  have e : pyS S (.tup (l.map .str)) = some (.tuple (l.map .str)) := by show py _ = _; unfold py; rw [pys_strs]; rfl
  have e2 : pyS S (.str a) = some (.str a) := rfl
  unfold inD
  simp only [e, e2, sh_tup (lay_strs l hl) (Nat.le_trans (dep_strs l) (by decide)), sh_str h, and_self, if_true, itemsOf, any_strs]
theorem in_lstS (l : List Str) (h : PyData.strOk a = true := by decide +kernel) (hl : ∀ a ∈ l, PyData.strOk a = true := by decide +kernel) : inD (.str a) (.lst (l.map .str)) S = .ok (.bl (decide (a ∈ l))) S := by
  have e : pyS S (.lst (l.map .str)) = some (.list (l.map .str)) := by show py _ = _; unfold py; rw [pys_strs]; rfl
  have e2 : pyS S (.str a) = some (.str a) := rfl
  unfold inD
  simp only [e, e2, sh_lst (lay_strs l hl) (Nat.le_trans (dep_strs l) (by decide)), sh_str h, and_self, if_true, itemsOf, any_strs]
theorem nin_tupS (l : List Str) (h : PyData.strOk a = true := by decide +kernel) (hl : ∀ a ∈ l, PyData.strOk a = true := by decide +kernel) : notInD (.str a) (.tup (l.map .str)) S = .ok (.bl (!decide (a ∈ l))) S := by
  have e : pyS S (.tup (l.map .str)) = some (.tuple (l.map .str)) := by show py _ = _; unfold py; rw [pys_strs]; rfl
  have e2 : pyS S (.str a) = some (.str a) := rfl
  unfold notInD
  simp only [e, e2, sh_tup (lay_strs l hl) (Nat.le_trans (dep_strs l) (by decide)), sh_str h, and_self, if_true, itemsOf, any_strs]
theorem nin_lstS (l : List Str) (h : PyData.strOk a = true := by decide +kernel) (hl : ∀ a ∈ l, PyData.strOk a = true := by decide +kernel) : notInD (.str a) (.lst (l.map .str)) S = .ok (.bl (!decide (a ∈ l))) S := by
  have e : pyS S (.lst (l.map .str)) = some (.list (l.map .str)) := by show py _ = _; unfold py; rw [pys_strs]; rfl
  have e2 : pyS S (.str a) = some (.str a) := rfl
  unfold notInD
  simp only [e, e2, sh_lst (lay_strs l hl) (Nat.le_trans (dep_strs l) (by decide)), sh_str h, and_self, if_true, itemsOf, any_strs]
theorem cnt_strs (a : Str) : ∀ l : List Str, ((l.map PyData.str).countP fun z => PyData.eqv z (.str a)) = l.count a
  | [] => rfl
  | b :: r => by
    rw [List.map_cons, List.countP_cons, cnt_strs a r, List.count_cons]
    rfl
theorem cnt_obS {l : List Str} (ha : PyData.strOk a = true) (hl : ∀ a ∈ l, PyData.strOk a = true) (h : S[n]? = some (some (.lst (l.map .str)))) : cntD (.ob n) [.str a] S = .ok (.int (l.count a : Nat)) S := by
  have h' : pyS S (.ob n) = some (.list (l.map .str)) := by rw [pyS_ob, h]; simp [oLst, pys_strs]
  have e2 : pyS S (.str a) = some (.str a) := rfl
  unfold cntD
  simp only [h', e2, sh_lst (lay_strs l hl) (Nat.le_trans (dep_strs l) (by decide)), sh_str ha, and_self, if_true, cnt_strs]
theorem repr_ok {d : D} {p : PyData} (h : pyS S d = some p) (ok : reprOk p) : reprD [d] S = .ok (.str p.shown) S := by
  unfold reprD
  simp only [h, if_pos ok]
theorem str_int {i : Int} (h : i.natAbs.log2 < 1920) : strD [.int i] S = .ok (.str (toString i)) S := by
  unfold strD
  simp only [if_pos h]
end
end DL
namespace DL
open PySem PySem.Spec PyProof.Rows L2
open SeqAt (shaped)
section
variable {fr : Frame} {S S1 : Store} {f g f1 f2 f3 : Frame → M D} {d : D}
@[simp] theorem andV_run : andV f g fr S = rb (f fr S) fun x S1 => rb (tsb x S1) fun b S2 => if b = true then g fr S2 else .ok (.bl false) S2 := by
  unfold andV
  rw [bnd_run]
  refine congrArg (rb _) (funext fun x => funext fun S1 => ?_)
  rw [bnd_run]
  refine congrArg (rb _) (funext fun b => funext fun S' => ?_)
  cases b <;> rfl
@[simp] theorem orV_run : orV f g fr S = rb (f fr S) fun x S1 => rb (tsb x S1) fun b S2 => if b = true then .ok (.bl true) S2 else g fr S2 := by
  unfold orV
  rw [bnd_run]
  refine congrArg (rb _) (funext fun x => funext fun S1 => ?_)
  rw [bnd_run]
  refine congrArg (rb _) (funext fun b => funext fun S' => ?_)
  cases b <;> rfl
@[simp] theorem notV_run : notV f fr S = rb (f fr S) fun x S1 => rb (tsb x S1) fun b S2 => .ok (.bl !b) S2 := (rfl)
@[simp] theorem tru_bl {b : Bool} : truF (.bl b) S = .ok b S := (rfl)
theorem isi_known {T : String} {t : String} {b : Bool} (h1 : tyN S d = some t) (h2 : kitB t T = some b) : isiD T d S = .ok (.bl b) S := by
  unfold isiD
  rw [h1]
  simp only [Option.bind_some, h2]
@[simp] theorem isi_tt {l : List D} : isiD "tuple" (.tup l) S = .ok (.bl true) S := isi_known rfl (by decide +kernel)
@[simp] theorem isi_ti {i : Int} : isiD "tuple" (.int i) S = .ok (.bl false) S := isi_known rfl (by decide +kernel)
@[simp] theorem isi_ts {i : Str} : isiD "tuple" (.str i) S = .ok (.bl false) S := isi_known rfl (by decide +kernel)
@[simp] theorem isi_it {l : List D} : isiD "int" (.tup l) S = .ok (.bl false) S := isi_known rfl (by decide +kernel)
@[simp] theorem isi_ii {i : Int} : isiD "int" (.int i) S = .ok (.bl true) S := isi_known rfl (by decide +kernel)
@[simp] theorem isi_is {i : Str} : isiD "int" (.str i) S = .ok (.bl false) S := isi_known rfl (by decide +kernel)
@[simp] theorem isi_st {l : List D} : isiD "str" (.tup l) S = .ok (.bl false) S := isi_known rfl (by decide +kernel)
@[simp] theorem isi_si {i : Int} : isiD "str" (.int i) S = .ok (.bl false) S := isi_known rfl (by decide +kernel)
@[simp] theorem isi_ss {i : Str} : isiD "str" (.str i) S = .ok (.bl true) S := isi_known rfl (by decide +kernel)
@[simp] theorem ix0 {x : D} {l : List D} : ixD (.tup (x :: l)) (.int 0) S = .ok x S := ix_tup atI_0
@[simp] theorem ix1 {x y : D} {l : List D} : ixD (.tup (x :: y :: l)) (.int 1) S = .ok y S := ix_tup atI_1
@[simp] theorem ix2 {x y z : D} {l : List D} : ixD (.tup (x :: y :: z :: l)) (.int 2) S = .ok z S := ix_tup (atI_nat (k := 2) rfl rfl)
@[simp] theorem ix0l {x : D} {l : List D} : ixD (.lst (x :: l)) (.int 0) S = .ok x S := ix_lst atI_0
@[simp] theorem ix1l {x y : D} {l : List D} : ixD (.lst (x :: y :: l)) (.int 1) S = .ok y S := ix_lst atI_1
@[simp] theorem sorted_lst {ns : List Int} : sortedD [.lst (ns.map .int)] S = .ok (.lst ((sortI ns).map .int)) S := by
  unfold sortedD
  have : (oneL S [.lst (ns.map .int)]).bind intsL = some ns := by
    show intsL (ns.map .int) = some ns
    induction ns with
    | nil => rfl
    | cons a r ih => simp [intsL, ih]
  rw [this]
theorem it_str {fe : Frame → M D} {z : Str} (h : fe fr S = .ok (.str z) S1) : ∃ src, itS fe fr S = .ok src S1 ∧ ∀ S, src S = some (chars z) := by
  refine ⟨fun _ => some (chars z), ?_, fun _ => rfl⟩
  unfold itS
  rw [bnd_ok h]
theorem add_tup {l m : List D} (h : l.length + m.length ≤ sizeLine) : addD (.tup l) (.tup m) S = .ok (.tup (l ++ m)) S := by
  unfold addD
  simp only [if_pos h]
theorem add_lst {l m : List D} (h : l.length + m.length ≤ sizeLine) : addD (.lst l) (.lst m) S = .ok (.lst (l ++ m)) S := by
  unfold addD
  simp only [lstL_lst, if_pos h]
theorem cut_tail {x : D} {l : List D} : DL.cutD (x :: l) (some 1) none = l := by
  unfold DL.cutD HT.sIx
  simp
theorem cut_head {x : D} {l : List D} : DL.cutD (x :: l) none (some 1) = [x] := by
  unfold DL.cutD HT.sIx
  simp
end
/-! ### formulas -/
inductive Fm where
  | num (n : Nat) | lett (s : Str) | neg (f : Fm) | bin (op : Str) (f g : Fm)
  deriving DecidableEq
def Fm.d : Fm → D
  | .num n => .int n
  | .lett s => .str s
  | .neg f => .tup [.str "neg", f.d]
  | .bin op f g => .tup [.str op, f.d, g.d]
def OPS : List Str := ["+", "-", "*"]
def LETS : List Str := ["a", "b", "c", "d"]
def Fm.ok : Fm → Prop
  | .num n => n < 100
  | .lett s => s ∈ LETS
  | .neg f => f.ok
  | .bin op f g => op ∈ OPS ∧ f.ok ∧ g.ok
def Fm.ops : Fm → Nat
  | .num _ => 0
  | .lett _ => 0
  | .neg f => f.ops + 1
  | .bin _ f g => f.ops + g.ops + 1
def Fm.needs : Fm → Int
  | .num _ => 1
  | .lett _ => 1
  | .neg f => f.needs
  | .bin _ f g => if f.needs = g.needs then f.needs + 1 else if g.needs > f.needs then g.needs else f.needs
theorem ops_neg : ∀ op ∈ OPS, op ≠ ("neg" : Str) := by decide +kernel
noncomputable def needsB (self : List D → M D) : SM := seqS (ifS (notF (tstF (unF (isiD "tuple") (varF 0)))) (retF (cstF (.int 1))) (nxF)) (seqS (ifS (tbF (binF eqD (binF ixD (varF 0) (cstF (.int 0))) (cstF (.str "neg")))) (retF (calF (fun xs => self (xs ++ [])) [binF ixD (varF 0) (cstF (.int 1))])) (nxF)) (seqS (parF [1, 2] [calF (fun xs => self (xs ++ [])) [binF ixD (varF 0) (cstF (.int 1))], calF (fun xs => self (xs ++ [])) [binF ixD (varF 0) (cstF (.int 2))]]) (retF (iteF (tbF (binF eqD (varF 1) (varF 2))) (binF addD (varF 1) (cstF (.int 1))) (calF max2D [varF 1, varF 2])))))
theorem needs_run {F : Nat → List D → M D} (hF : ∀ k, F (k + 1) = defF 3 (needsB (F k))) : ∀ (f : Fm) (k : Nat) (S : Store), f.ok → f.ops < k → F k [f.d] S = .ok (.int f.needs) S
  | _, 0, _, _, h => absurd h (Nat.not_lt_zero _)
  | .num n, k + 1, S, _, _ => by
    rw [hF]
    refine def_rt (fr := [some (.int n), none, none]) ?_
    show needsB (F k) [some (.int n), none, none] S = _
    simp [needsB, Fm.needs]
  | .lett n, k + 1, S, _, _ => by
    rw [hF]
    refine def_rt (fr := [some (.str n), none, none]) ?_
    show needsB (F k) [some (.str n), none, none] S = _
    simp [needsB, Fm.needs]
  | .neg f, k + 1, S, ok, h => by
    rw [hF]
    have e := needs_run hF f k S ok (by simp only [Fm.ops] at h; omega)
    refine def_rt (fr := [some (.tup [.str "neg", f.d]), none, none]) ?_
    show needsB (F k) [some (.tup [.str "neg", f.d]), none, none] S = _
    simp [needsB, Fm.needs, e, nxF]
  | .bin op f g, k + 1, S, ok, h => by
    rw [hF]
    have e1 := needs_run hF f k S ok.2.1 (by simp only [Fm.ops] at h; omega)
    have e2 := needs_run hF g k S ok.2.2 (by simp only [Fm.ops] at h; omega)
    have hn := ops_neg op ok.1
    refine def_rt (fr := [some (.tup [.str op, f.d, g.d]), some (.int f.needs), some (.int g.needs)]) ?_
    show needsB (F k) [some (.tup [.str op, f.d, g.d]), none, none] S = _
    by_cases h1 : f.needs = g.needs
    · simp [needsB, Fm.needs, e1, e2, nxF, hn, h1, setAll]
    · simp [needsB, Fm.needs, e1, e2, nxF, hn, h1, setAll]
theorem ix_lastT {l : List D} {x : D} {S : Store} : ixD (.tup (l ++ [x])) (.int (-1)) S = .ok x S := by
  refine ix_tup ?_
  have e : ixN (l ++ [x]).length (-1) = some l.length := by
    unfold ixN
    rw [List.length_append, List.length_singleton, if_neg (by decide), if_pos (by omega)]
    congr 1
    omega
  unfold atI
  rw [e]
  simp
theorem ix_lastL {l : List D} {x : D} {S : Store} : ixD (.lst (l ++ [x])) (.int (-1)) S = .ok x S := by
  refine ix_lst ?_
  have e : ixN (l ++ [x]).length (-1) = some l.length := by
    unfold ixN
    rw [List.length_append, List.length_singleton, if_neg (by decide), if_pos (by omega)]
    congr 1
    omega
  unfold atI
  rw [e]
  simp
def digs (n : Nat) : List Str := (Str.ofString (toString (n : Int))).cps.toList.map fun c => ⟨#[c]⟩
def DIG : List Str := ["0", "1", "2", "3", "4", "5", "6", "7", "8", "9"]
theorem digs_ok : ∀ n : Nat, n < 100 → digs n ≠ [] ∧ (∀ x ∈ digs n, x ∈ DIG) ∧ (digs n).length ≤ 2 := by decide +kernel
theorem chars_num (n : Nat) : chars (Str.ofString (toString (n : Int))) = (digs n).map .str := by
  unfold chars digs
  rw [List.map_map]
  rfl
def isD (x : Str) : Bool := strIn x "0123456789"
def joinL (a b : List Str) : List Str := if isD (a.getLastD "") && isD (b.headD "") then a ++ [("enter" : Str)] ++ b else a ++ b
def Fm.row : Fm → List Str
  | .num n => digs n
  | .lett s => [s]
  | .neg f => f.row ++ [("neg" : Str)]
  | .bin op f g => if g.needs > f.needs then joinL g.row f.row ++ (if op = "-" then [("swap" : Str), "-"] else [op]) else joinL f.row g.row ++ [op]
theorem joinL_ne {a b : List Str} (h : a ≠ []) : joinL a b ≠ [] := by
  unfold joinL
  split <;> simp [h]
theorem joinL_len {a b : List Str} : (joinL a b).length ≤ a.length + b.length + 1 := by
  unfold joinL
  split <;> simp <;> omega
theorem Fm.row_ne : ∀ f : Fm, f.ok → f.row ≠ []
  | .num n, h => (digs_ok n h).1
  | .lett s, _ => by simp [Fm.row]
  | .neg f, _ => by simp [Fm.row]
  | .bin op f g, _ => by
    unfold Fm.row
    split
    · rw [Ne, List.append_eq_nil_iff]
      rintro ⟨_, h2⟩
      split at h2 <;> cases h2
    · simp
theorem Fm.row_len : ∀ f : Fm, f.ok → f.row.length ≤ 5 * f.ops + 2
  | .num n, h => (digs_ok n h).2.2
  | .lett s, _ => by simp [Fm.row]
  | .neg f, h => by have := f.row_len h; simp [Fm.row, Fm.ops]; omega
  | .bin op f g, h => by
    have h1 := f.row_len h.2.1
    have h2 := g.row_len h.2.2
    have j1 := joinL_len (a := g.row) (b := f.row)
    have j2 := joinL_len (a := f.row) (b := g.row)
    unfold Fm.row
    simp only [Fm.ops]
    split
    · rw [List.length_append]
      split <;> simp <;> omega
    · rw [List.length_append]
      simp
      omega
theorem last_split {a : List Str} (h : a ≠ []) : ∃ a', a = a' ++ [a.getLastD ""] := by
  refine ⟨a.dropLast, ?_⟩
  rw [List.getLastD_eq_getLast?, List.getLast?_eq_some_getLast h]
  exact (List.dropLast_concat_getLast h).symm
theorem head_split {b : List Str} (h : b ≠ []) : ∃ b', b = b.headD "" :: b' := by
  cases b with
  | nil => exact absurd rfl h
  | cons x r => exact ⟨r, rfl⟩
noncomputable def joinedB : SM := seqS (asgF 2 (orV (binF notInD (binF ixD (varF 0) (unF negD (cstF (.int 1)))) (cstF (.str "0123456789"))) (binF notInD (binF ixD (varF 1) (cstF (.int 0))) (cstF (.str "0123456789"))))) (retF (iteF (tstF (varF 2)) (binF addD (varF 0) (varF 1)) (binF addD (binF addD (varF 0) (tupF [cstF (.str "enter")])) (varF 1))))
theorem joined_run {a b : List Str} (ha : a ≠ []) (hb : b ≠ []) (hl : a.length + b.length ≤ 1000) (S : Store) : defF 3 joinedB [.tup (a.map .str), .tup (b.map .str)] S = .ok (.tup ((joinL a b).map .str)) S := by
  obtain ⟨a', ea⟩ := last_split ha
  obtain ⟨b', eb⟩ := head_split hb
  have xa : ixD (.tup (a.map .str)) (.int (-1)) S = .ok (.str (a.getLastD "")) S := by
    rw [ea, List.map_append]
    have := ix_lastT (l := a'.map .str) (x := .str (a.getLastD "")) (S := S)
    rw [← ea]
    exact this
  have xb : ixD (.tup (b.map .str)) (.int 0) S = .ok (.str (b.headD "")) S := by
    conv => lhs; rw [eb]
    rw [List.map_cons]
    exact ix0
  have i1 : notInD (.str (a.getLastD "")) (.str "0123456789") S = .ok (.bl (!isD (a.getLastD ""))) S := rfl
  have i2 : notInD (.str (b.headD "")) (.str "0123456789") S = .ok (.bl (!isD (b.headD ""))) S := rfl
  have a1 : addD (.tup (a.map .str)) (.tup (b.map .str)) S = .ok (.tup ((a ++ b).map .str)) S := by rw [add_tup (by simp; rw [sizeLine_eq]; omega), List.map_append]
  have a2 : addD (.tup (a.map .str)) (.tup [.str "enter"]) S = .ok (.tup ((a ++ [("enter" : Str)]).map .str)) S := by rw [add_tup (by simp; rw [sizeLine_eq]; omega), List.map_append]; rfl
  have a3 : addD (.tup ((a ++ [("enter" : Str)]).map .str)) (.tup (b.map .str)) S = .ok (.tup ((a ++ [("enter" : Str)] ++ b).map .str)) S := by rw [add_tup (by simp; rw [sizeLine_eq]; omega), ← List.map_append]
  refine def_rt (fr := [some (.tup (a.map .str)), some (.tup (b.map .str)), some (.bl (!isD (a.getLastD "") || !isD (b.headD "")))]) ?_
  show joinedB [some (.tup (a.map .str)), some (.tup (b.map .str)), none] S = _
  clear ea eb
  unfold joinL
  generalize a.getLastD "" = la at *
  generalize b.headD "" = fb at *
  generalize isD la = x at i1 ⊢
  generalize isD fb = y at i2 ⊢
  unfold joinedB
  cases x <;> cases y <;> simp [xa, xb, i1, i2, a1, a2, a3, -DL.nin_str, -List.map_append, -List.append_assoc]
end DL
namespace DL
open PySem PySem.Spec PyProof.Rows L2
open SeqAt (shaped)
theorem log_small {n : Nat} (h : n < 128) : n.log2 < 1920 := PySem.Flt.log2_lt_of (by decide) (Nat.lt_of_lt_of_le (show n < 2 ^ 7 from h) (Nat.pow_le_pow_right (by decide) (by decide)))
theorem str_num {n : Nat} (h : n < 100) (S : Store) : strD [.int (n : Int)] S = .ok (.str (Str.ofString (toString (n : Int)))) S := str_int (log_small (show n < 128 by omega))
theorem DIG_isD : ∀ x ∈ DIG, isD x = true := by decide +kernel
theorem chars_lett : ∀ x ∈ LETS, chars x = [.str x] := by
  intro x hx
  simp only [LETS, List.mem_cons, List.not_mem_nil, or_false] at hx
  rcases hx with rfl | rfl | rfl | rfl <;> rfl
noncomputable def plainB (nd jo self : List D → M D) : SM := seqS (ifS (tstF (unF (isiD "int") (varF 0))) (retF (calF tupleD [cmpD [3] (itS (calF strD [varF 0])) (tgName 3) (yesF) (varF 3)])) (nxF)) (seqS (ifS (tstF (unF (isiD "str") (varF 0))) (retF (tupF [varF 0])) (nxF)) (seqS (ifS (tbF (binF eqD (binF ixD (varF 0) (cstF (.int 0))) (cstF (.str "neg")))) (retF (binF addD (calF (fun xs => self (xs ++ [])) [binF ixD (varF 0) (cstF (.int 1))]) (tupF [cstF (.str "neg")]))) (nxF)) (seqS (parF [1, 2] [calF (fun xs => self (xs ++ [])) [binF ixD (varF 0) (cstF (.int 1))], calF (fun xs => self (xs ++ [])) [binF ixD (varF 0) (cstF (.int 2))]]) (seqS (ifS (tbF (binF gtD (calF (fun xs => nd (xs ++ [])) [binF ixD (varF 0) (cstF (.int 2))]) (calF (fun xs => nd (xs ++ [])) [binF ixD (varF 0) (cstF (.int 1))]))) (retF (binF addD (calF (fun xs => jo (xs ++ [])) [varF 2, varF 1]) (iteF (tbF (binF eqD (binF ixD (varF 0) (cstF (.int 0))) (cstF (.str "-")))) (tupF [cstF (.str "swap"), cstF (.str "-")]) (sliF sliD (varF 0) none (some (cstF (.int 1))))))) (nxF)) (retF (binF addD (calF (fun xs => jo (xs ++ [])) [varF 1, varF 2]) (sliF sliD (varF 0) none (some (cstF (.int 1))))))))))
theorem text_signs {fr : Frame} {S : Store} {z : Str} {fe : Frame → M D} {j : Nat} {l : List Str} (h : fe fr S = .ok (.str z) S) (hc : chars z = l.map .str) (hl : l.length ≤ 1000) (hj : j < fr.length) : cmpD [j] (itS fe) (tgName j) yesF (varF j) fr S = .ok (.lst (l.map .str)) S := by
  obtain ⟨src, e1, e2⟩ := it_str h
  have m := mapS_pure (S := S) (h := fun x => varF j ((wipeF fr [j]).set j (some x))) (φ := id) (chars z) (fun x _ => by
    rw [varF_run]
    have : ((wipeF fr [j]).set j (some x))[j]? = some (some x) := List.getElem?_set_self (by simp [wipeF, hj])
    rw [this]
    rfl)
  rw [← itL_map, List.map_id, hc] at m
  rw [hc] at e2
  exact cmpD_ok e1 e2 (by rw [List.length_map, sizeLine_eq]; omega) m
theorem plain_run {F : Nat → List D → M D} {nd jo : List D → M D} (hF : ∀ k, F (k + 1) = defF 4 (plainB nd jo (F k))) (hnd : ∀ (f : Fm) (S : Store), f.ok → f.ops < 20 → nd [f.d] S = .ok (.int f.needs) S)
    (hjo : ∀ (a b : List Str) (S : Store), a ≠ [] → b ≠ [] → a.length + b.length ≤ 1000 → jo [.tup (a.map .str), .tup (b.map .str)] S = .ok (.tup ((joinL a b).map .str)) S) :
    ∀ (f : Fm) (k : Nat) (S : Store), f.ok → f.ops < k → f.ops < 20 → F k [f.d] S = .ok (.tup (f.row.map .str)) S
  | _, 0, _, _, h, _ => absurd h (Nat.not_lt_zero _)
  | .num n, k + 1, S, ok, _, _ => by
    rw [hF]
    have t := text_signs (fr := [some (.int n), none, none, none]) (S := S) (fe := calF strD [varF 0]) (j := 3) (by simp [str_num ok]) (chars_num n) (by have := (digs_ok n ok).2.2; omega) (by simp)
    refine def_rt (fr := [some (.int n), none, none, none]) ?_
    show plainB _ _ (F k) [some (.int n), none, none, none] S = _
    simp [plainB, Fm.row, t]
  | .lett n, k + 1, S, _, _, _ => by
    rw [hF]
    refine def_rt (fr := [some (.str n), none, none, none]) ?_
    show plainB _ _ (F k) [some (.str n), none, none, none] S = _
    simp [plainB, Fm.row, nxF]
  | .neg f, k + 1, S, ok, h, h2 => by
    rw [hF]
    simp only [Fm.ops] at h h2
    have e := plain_run hF hnd hjo f k S ok (by omega) (by omega)
    have hl := f.row_len ok
    have a1 : addD (.tup (f.row.map .str)) (.tup [.str "neg"]) S = .ok (.tup ((f.row ++ [("neg" : Str)]).map .str)) S := by rw [add_tup (by simp; rw [sizeLine_eq]; omega), List.map_append]; rfl
    refine def_rt (fr := [some (.tup [.str "neg", f.d]), none, none, none]) ?_
    show plainB _ _ (F k) [some (.tup [.str "neg", f.d]), none, none, none] S = _
    simp [plainB, Fm.row, e, nxF, a1, -List.map_append]
  | .bin op f g, k + 1, S, ok, h, h2 => by
    rw [hF]
    simp only [Fm.ops] at h h2
    have e1 := plain_run hF hnd hjo f k S ok.2.1 (by omega) (by omega)
    have e2 := plain_run hF hnd hjo g k S ok.2.2 (by omega) (by omega)
    have l1 := f.row_len ok.2.1
    have l2 := g.row_len ok.2.2
    have n1 := hnd f S ok.2.1 (by omega)
    have n2 := hnd g S ok.2.2 (by omega)
    have j1 := hjo f.row g.row S (f.row_ne ok.2.1) (g.row_ne ok.2.2) (by omega)
    have j2 := hjo g.row f.row S (g.row_ne ok.2.2) (f.row_ne ok.2.1) (by omega)
    have k1 := joinL_len (a := f.row) (b := g.row)
    have k2 := joinL_len (a := g.row) (b := f.row)
    have hn := ops_neg op ok.1
    have ct : ∀ S : Store, sliD (.tup [.str op, f.d, g.d]) none (some 1) S = .ok (.tup [.str op]) S := fun S => by
      show R.ok (D.tup (DL.cutD [.str op, f.d, g.d] none (some 1))) S = _
      rw [cut_head]
    have add : ∀ (l m : List Str), l.length ≤ 400 → m.length ≤ 400 → addD (.tup (l.map .str)) (.tup (m.map .str)) S = .ok (.tup ((l ++ m).map .str)) S := fun l m h h' => by rw [add_tup (by simp; rw [sizeLine_eq]; omega), List.map_append]
    have a1 := add (joinL f.row g.row) [op] (by omega) (by simp)
    have a2 := add (joinL g.row f.row) [op] (by omega) (by simp)
    have a3 := add (joinL g.row f.row) [("swap" : Str), "-"] (by omega) (by simp)
    simp only [List.map_cons, List.map_nil] at a1 a2 a3
    refine def_rt (fr := [some (.tup [.str op, f.d, g.d]), some (.tup (f.row.map .str)), some (.tup (g.row.map .str)), none]) ?_
    show plainB _ _ (F k) [some (.tup [.str op, f.d, g.d]), none, none, none] S = _
    by_cases c1 : f.needs < g.needs
    · by_cases c2 : op = "-"
      · subst c2
        simp [plainB, Fm.row, e1, e2, n1, n2, nxF, hn, c1, setAll, j2, a3, -List.map_append]
      · simp [plainB, Fm.row, e1, e2, n1, n2, nxF, hn, c1, c2, setAll, j2, a2, ct, -List.map_append]
    · simp [plainB, Fm.row, e1, e2, n1, n2, nxF, hn, c1, setAll, j1, a1, ct, -List.map_append]
end DL
namespace DL
open PySem PySem.Spec PyProof.Rows L2
open SeqAt (shaped)
/-! ### the other deck -/
structure Dk2 (n m b : Nat) (S : Store) : Prop where
  ne : n ≠ m
  ex : ∃ (cells base : List Int) (k : Int), S[n]? = some (some (.lst [.ob m, .lst (base.map .int), .int k])) ∧ S[m]? = some (some (.lst (cells.map .int))) ∧ (∀ c ∈ cells, 0 ≤ c) ∧ base ≠ [] ∧ 0 ≤ k ∧ k + b ≤ 2 ^ 40
theorem Dk2.mono {n m b c : Nat} {S : Store} (h : Dk2 n m b S) (hc : c ≤ b) : Dk2 n m c S := by
  obtain ⟨ne, cells, base, k, h1, h2, h3, h4, h5, h6⟩ := h
  exact ⟨ne, cells, base, k, h1, h2, h3, h4, h5, by omega⟩
theorem Dk2.keep {n m b : Nat} {S S' : Store} (h : Dk2 n m b S) (e1 : S'[n]? = S[n]?) (e2 : S'[m]? = S[m]?) : Dk2 n m b S' := by
  obtain ⟨ne, cells, base, k, h1, h2, h3⟩ := h
  exact ⟨ne, cells, base, k, e1.trans h1, e2.trans h2, h3⟩
theorem Dk2.lt {n m b : Nat} {S : Store} (h : Dk2 n m b S) : n < S.length ∧ m < S.length := by
  obtain ⟨ne, cells, base, k, h1, h2, _⟩ := h
  exact ⟨(List.getElem?_eq_some_iff.mp h1).1, (List.getElem?_eq_some_iff.mp h2).1⟩
def Rn2 {α : Type} (n m c : Nat) (f : M α) (P : α → Prop) : Prop := ∀ b S, Dk2 n m (b + c) S → ∃ a S', f S = .ok a S' ∧ P a ∧ Dk2 n m b S' ∧ Keep n m S S'
theorem ne_empty {m : Nat} {S : Store} {cells : List Int} (h : S[m]? = some (some (.lst (cells.map .int)))) : neD (.ob m) (.lst []) S = .ok (.bl (!cells.isEmpty)) S := by
  have e1 : pyS S (.ob m) = some (.list (cells.map .int)) := by rw [pyS_ob, h]; simp [oLst, pys_ints]
  have e2 : pyS S (.lst []) = some (.list []) := rfl
  have s1 : shaped (.list (cells.map PyData.int)) = true := sh_lst (lay_ints cells) (Nat.le_trans (dep_ints cells) (by decide))
  have s2 : shaped (.list []) = true := by decide +kernel
  have hv : PyData.eqv (.list (cells.map PyData.int)) (.list []) = cells.isEmpty := by cases cells <;> rfl
  unfold neD
  simp only [e1, e2, s1, s2, and_self, if_true, hv]
noncomputable def draw2B : SM := seqS (ifS (tbF (binF neD (binF ixD (varF 0) (cstF (.int 0))) (lstF []))) (seqS (asgF 2 (binF ixD (binF ixD (varF 0) (cstF (.int 0))) (cstF (.int 0)))) (seqS (asgG (tgSub (binF ixD (varF 0) (cstF (.int 0))) (cstF (.int 0))) (binF fdivD (varF 2) (varF 1))) (seqS (ifS (tbF (binF eqD (binF ixD (binF ixD (varF 0) (cstF (.int 0))) (cstF (.int 0))) (cstF (.int 0)))) (exprF (metF "list" popD (binF ixD (varF 0) (cstF (.int 0))) [cstF (.int 0)])) (nxF)) (retF (binF modD (calF intD [varF 2]) (varF 1)))))) (nxF)) (seqS (asgG (tgSub (varF 0) (cstF (.int 2))) (binF addD (binF ixD (varF 0) (cstF (.int 2))) (cstF (.int 1)))) (seqS (asgF 3 (binF ixD (binF ixD (varF 0) (cstF (.int 1))) (binF modD (calF intD [binF ixD (varF 0) (cstF (.int 2))]) (calF lenD [binF ixD (varF 0) (cstF (.int 1))])))) (seqS (asgF 4 (binF modD (calF intD [binF addD (binF modD (calF intD [varF 3]) (cstF (.int 4294967279))) (binF mulD (cstF (.int 2246822519)) (binF ixD (varF 0) (cstF (.int 2))))]) (cstF (.int 4294967279)))) (seqS (asgF 4 (binF modD (calF intD [binF addD (binF mulD (varF 4) (varF 4)) (binF mulD (cstF (.int 30341)) (binF ixD (varF 0) (cstF (.int 2))))]) (cstF (.int 4294967231)))) (retF (binF modD (binF fdivD (binF modD (calF intD [binF mulD (varF 4) (varF 4)]) (cstF (.int 4294967197))) (cstF (.int 2048))) (varF 1)))))))
theorem atI_2 {α : Type} {x y z : α} {l : List α} : atI (x :: y :: z :: l) 2 = some z := atI_nat (k := 2) rfl rfl
theorem draw2_run {n m : Nat} {many : Int} (h0 : 0 < many) (h1 : many < 2 ^ 40) : Rn2 n m 1 (defF 5 draw2B [.ob n, .int many]) fun d => ∃ r : Int, d = .int r ∧ 0 ≤ r ∧ r < many := by
  rintro b S ⟨ne, cells, base, k, e1, e2, h3, hb, h4, h5⟩
  have f0 : frame0 5 [D.ob n, .int many] = [some (.ob n), some (.int many), none, none, none] := rfl
  have ln : n < S.length := (List.getElem?_eq_some_iff.mp e1).1
  have lm : m < S.length := (List.getElem?_eq_some_iff.mp e2).1
  have nE := ne_empty e2
  cases cells with
  | nil =>
    generalize hS1 : S.set n (some (.lst [.ob m, .lst (base.map .int), .int (k + 1)])) = S1
    have g1 : S1[n]? = some (some (.lst [.ob m, .lst (base.map .int), .int (k + 1)])) := by rw [← hS1]; exact List.getElem?_set_self ln
    have g2 : S1[m]? = some (some (.lst (([] : List Int).map .int))) := by rw [← hS1, List.getElem?_set_ne ne]; exact e2
    have st : setD (.ob n) (.int 2) (.int (k + 1)) S = .ok () S1 := by rw [← hS1]; exact set_ob e1 (k := 2) rfl
    have hlb : 0 < base.length := List.length_pos_iff.mpr hb
    have hpos : (0 : Int) < (base.length : Int) := by omega
    obtain ⟨at_, hat⟩ : ∃ a : Nat, (k + 1) % (base.length : Int) = a := ⟨((k + 1) % (base.length : Int)).toNat, by have := Int.emod_nonneg (k + 1) (show (base.length : Int) ≠ 0 by omega); omega⟩
    have hlt : at_ < base.length := by have := Int.emod_lt_of_pos (k + 1) hpos; omega
    have ixa : ∀ S : Store, ixD (.lst (base.map .int)) (.int (at_ : Nat)) S = .ok (.int base[at_]) S := fun S => ix_lst (atI_nat rfl (by rw [List.getElem?_map, List.getElem?_eq_getElem hlt]; rfl))
    generalize base[at_] = cell at ixa
    have md : ∀ (x y : Int) (S : Store), 0 < y → modD (.int x) (.int y) S = .ok (.int (x % y)) S := fun x y S h => mod_int h
    have mb : ∀ S : Store, modD (.int (k + 1)) (.int (base.length : Nat)) S = .ok (.int (at_ : Nat)) S := fun S => by rw [mod_int hpos, hat]
    have m1 : ∀ S : Store, mulD (.int 2246822519) (.int (k + 1)) S = .ok (.int (2246822519 * (k + 1))) S := fun S => mul_int' (wide_mul (a := 40) (b := 41) (by decide) (by omega) (by decide) (by decide) (by decide))
    have m2 : ∀ S : Store, mulD (.int 30341) (.int (k + 1)) S = .ok (.int (30341 * (k + 1))) S := fun S => mul_int' (wide_mul (a := 40) (b := 41) (by decide) (by omega) (by decide) (by decide) (by decide))
    have a0 := Int.emod_nonneg (cell % 4294967279 + 2246822519 * (k + 1)) (show (4294967279 : Int) ≠ 0 by decide)
    have a1 := Int.emod_lt_of_pos (cell % 4294967279 + 2246822519 * (k + 1)) (show (0 : Int) < 4294967279 by decide)
    generalize hx : (cell % 4294967279 + 2246822519 * (k + 1)) % 4294967279 = x at a0 a1
    have m3 : ∀ S : Store, mulD (.int x) (.int x) S = .ok (.int (x * x)) S := fun S => mul_int' (wide_mul (a := 40) (b := 40) (by omega) (by omega) (by decide) (by decide) (by decide))
    have b0 := Int.emod_nonneg (x * x + 30341 * (k + 1)) (show (4294967231 : Int) ≠ 0 by decide)
    have b1 := Int.emod_lt_of_pos (x * x + 30341 * (k + 1)) (show (0 : Int) < 4294967231 by decide)
    generalize hy : (x * x + 30341 * (k + 1)) % 4294967231 = y at b0 b1
    have m4 : ∀ S : Store, mulD (.int y) (.int y) S = .ok (.int (y * y)) S := fun S => mul_int' (wide_mul (a := 40) (b := 40) (by omega) (by omega) (by decide) (by decide) (by decide))
    have dv : ∀ (z : Int) (S : Store), fdivD (.int z) (.int 2048) S = .ok (.int (z / 2048)) S := fun z S => fdiv_int (wide_div (b := 20) (by decide) (by decide) (by decide) (by decide))
    refine ⟨.int (y * y % 4294967197 / 2048 % many), S1, def_rt (fr := [some (.ob n), some (.int many), none, some (.int cell), some (.int y)]) ?_, ⟨_, rfl, Int.emod_nonneg _ (by omega), Int.emod_lt_of_pos _ h0⟩, ⟨ne, [], base, k + 1, g1, g2, h3, hb, by omega, by omega⟩, by rw [← hS1]; exact Keep.refl.set (.inr (.inl rfl))⟩
    rw [f0]
    simp [draw2B, ix_ob e1 atI_0, ix_ob e1 atI_2, ix_ob g1 atI_1, ix_ob g1 atI_2, nE, nxF, st, mb, md, ixa, m1, m2, m3, m4, dv, hx, hy, h0]
  | cons c cr =>
    have hc := h3 c List.mem_cons_self
    have xc : ixD (.ob m) (.int 0) S = .ok (.int c) S := ix_ob e2 atI_0
    have dv : fdivD (.int c) (.int many) S = .ok (.int (c / many)) S := fdiv_int (wide_div (b := 41) h0 (by omega) (by decide) (by decide))
    generalize hS1 : S.set m (some (.lst (((c / many) :: cr).map .int))) = S1
    have st : setD (.ob m) (.int 0) (.int (c / many)) S = .ok () S1 := by rw [← hS1]; exact set_ob e2 (ixN_nat (k := 0) rfl (by simp))
    have g1 : S1[n]? = some (some (.lst [.ob m, .lst (base.map .int), .int k])) := by rw [← hS1, List.getElem?_set_ne (Ne.symm ne)]; exact e1
    have g2 : S1[m]? = some (some (.lst (((c / many) :: cr).map .int))) := by rw [← hS1]; exact List.getElem?_set_self lm
    have x1 : ixD (.ob m) (.int 0) S1 = .ok (.int (c / many)) S1 := ix_ob g2 atI_0
    have k1 : Keep n m S S1 := by rw [← hS1]; exact Keep.refl.set (.inr (.inr rfl))
    have qn := Int.ediv_nonneg hc (show 0 ≤ many by omega)
    by_cases z : c / many = 0
    · have pp : popD (.ob m) [.int 0] S1 = .ok (.int (c / many)) (S1.set m (some (.lst (cr.map .int)))) := by
        unfold popD
        have hz : seqIndex? 0 (((c / many) :: cr).map D.int).length = some 0 := by simp [seqIndex?]
        simp only [g2, oLst]
        rw [if_pos ⟨by decide, by decide⟩, hz]
        rfl
      have lm1 : m < S1.length := (List.getElem?_eq_some_iff.mp g2).1
      refine ⟨.int (c % many), S1.set m (some (.lst (cr.map .int))), def_rt (fr := [some (.ob n), some (.int many), some (.int c), none, none]) ?_, ⟨_, rfl, Int.emod_nonneg _ (by omega), Int.emod_lt_of_pos _ h0⟩, ⟨ne, cr, base, k, ?_, List.getElem?_set_self lm1, fun d hd => h3 d (List.mem_cons_of_mem _ hd), hb, h4, by omega⟩, k1.set (.inr (.inr rfl))⟩
      · rw [f0]
        have ty := tyR_ob g2
        clear hS1
        rw [z] at dv st x1 pp
        simp [draw2B, ix_ob e1 atI_0, ix_ob g1 atI_0, nE, xc, dv, st, x1, pp, ty, mod_int h0]
      · rw [List.getElem?_set_ne (Ne.symm ne)]; exact g1
    · refine ⟨.int (c % many), S1, def_rt (fr := [some (.ob n), some (.int many), some (.int c), none, none]) ?_, ⟨_, rfl, Int.emod_nonneg _ (by omega), Int.emod_lt_of_pos _ h0⟩, ⟨ne, (c / many) :: cr, base, k, g1, g2, fun d hd => ?_, hb, h4, by omega⟩, k1⟩
      · rw [f0]
        simp [draw2B, ix_ob e1 atI_0, ix_ob g1 atI_0, nE, xc, dv, st, x1, z, mod_int h0, nxF]
      · rcases List.mem_cons.mp hd with rfl | hd
        · exact qn
        · exact h3 d (List.mem_cons_of_mem _ hd)
end DL
namespace DL
open PySem PySem.Spec PyProof.Rows L2
/-! ### the other deck is made -/
noncomputable def deck2B : SM := seqS (asgF 1 (cmpD [2] (itF (sliF sliD (varF 0) none (some (cstF (.int 63))))) (tgName 2) (yesF) (calF absD [varF 2]))) (retF (lstO [cmpO [2] (itF (varF 1)) (tgName 2) (tbF (binF geD (varF 2) (binF powD (cstF (.int 10)) (cstF (.int 18))))) (varF 2), binF addD (varF 1) (lstF [binF addD (cstF (.int 11209)) (calF lenD [varF 1])]), cstF (.int 0)]))
theorem itL_filter {fr : Frame} {S : Store} {j : Nat} {t : Frame → M Bool} {elt : Frame → M D} {p : Int → Bool} (ht : ∀ i : Int, t (fr.set j (some (.int i))) S = .ok (p i) S) (he : ∀ i : Int, elt (fr.set j (some (.int i))) S = .ok (.int i) S) :
    ∀ l : List Int, itL (tgName j) t elt fr (l.map .int) S = .ok ((l.filter p).map .int) S
  | [] => rfl
  | x :: r => by
    have ih := itL_filter ht he r
    rw [List.map_cons]
    unfold itL
    rw [bnd_ok (show tgName j (.int x) fr S = .ok (fr.set j (some (.int x))) S from rfl), bnd_ok (ht x), List.filter_cons]
    by_cases h : p x = true
    · rw [if_pos h, if_pos h, bnd_ok (he x), bnd_ok ih]
      rfl
    · rw [if_neg h, if_neg h, ih]
theorem deck2_run {ns : List Int} {S : Store} (h : ns.length ≤ 63) : ∃ S', defF 3 deck2B [.lst (ns.map .int)] S = .ok (.ob (S.length + 1)) S' ∧ Dk2 (S.length + 1) S.length (2 ^ 40) S' ∧ S'.length = S.length + 2 ∧ ∀ i, i < S.length → S'[i]? = S[i]? := by
  let ab : List Int := ns.map fun i => if i < 0 then -i else i
  have hl : (ns.map D.int).length ≤ 63 := by simpa using h
  obtain ⟨src, e1, e2⟩ := it_lst (fr := [some (.lst (ns.map .int)), none, none]) (S := S) (S1 := S) (fe := sliF sliD (varF 0) none (some (cstF (.int 63)))) (l := ns.map .int) (by simp [sliD, cut_63 hl])
  have m1 := mapS_pure (S := S) (h := fun x => calF absD [varF 2] ((wipeF [some (.lst (ns.map .int)), none, none] [2]).set 2 (some x))) (φ := absT) (ns.map .int) (by
    intro x hx
    obtain ⟨i, _, rfl⟩ := List.mem_map.mp hx
    simp [wipeF, absD, absT])
  rw [← itL_map] at m1
  have c1 := cmpD_ok e1 e2 (by rw [sizeLine_eq]; omega) m1
  have hab : (ns.map D.int).map absT = ab.map .int := by simp [absT, ab]
  rw [hab] at c1
  have la : ab.length = ns.length := by simp [ab]
  have pa : ∀ c ∈ ab, 0 ≤ c := by
    intro c hc
    obtain ⟨i, _, rfl⟩ := List.mem_map.mp hc
    split <;> omega
  clear_value ab
  obtain ⟨src2, q1, q2⟩ := it_lst (fr := [some (.lst (ns.map .int)), some (.lst (ab.map .int)), none]) (S := S) (S1 := S) (fe := varF 1) (l := ab.map .int) rfl
  have p18 : ∀ S : Store, powD (.int 10) (.int 18) S = .ok (.int 1000000000000000000) S := fun S => pow_int (by decide) (by decide) (by decide)
  have m2 := itL_filter (fr := wipeF [some (.lst (ns.map .int)), some (.lst (ab.map .int)), none] [2]) (S := S) (j := 2) (t := tbF (binF geD (varF 2) (binF powD (cstF (.int 10)) (cstF (.int 18))))) (elt := varF 2) (p := fun i => decide ((1000000000000000000 : Int) ≤ i)) (fun i => by simp [wipeF, p18]) (fun i => by simp [wipeF]) ab
  have c2 := cmpO_ok (vs := [2]) q1 q2 (by rw [List.length_map, sizeLine_eq]; omega) m2
  have ad : ∀ (z : Int) (S : Store), addD (.lst (ab.map .int)) (.lst [.int z]) S = .ok (.lst ((ab ++ [z]).map .int)) S := fun z S => by
    unfold addD
    simp only [lstL_lst]
    rw [if_pos (by simp; rw [sizeLine_eq]; omega), List.map_append]
    rfl
  generalize hF : ab.filter (fun i => decide ((1000000000000000000 : Int) ≤ i)) = big at c2
  have pb : ∀ c ∈ big, 0 ≤ c := fun c hc => by rw [← hF] at hc; exact pa c (List.mem_filter.mp hc).1
  refine ⟨(S ++ [some (.lst (big.map .int))]) ++ [some (.lst [.ob S.length, .lst ((ab ++ [11209 + (ab.length : Int)]).map .int), .int 0])], def_rt (fr := [some (.lst (ns.map .int)), some (.lst (ab.map .int)), none]) ?_, ?_, by simp, fun i hi => by rw [List.getElem?_append_left (by simp; omega), List.getElem?_append_left hi]⟩
  · show deck2B [some (.lst (ns.map .int)), none, none] S = _
    unfold deck2B
    refine seq_known (asg_known c1) ?_
    simp only [List.set_cons_succ, List.set_cons_zero, retF_run, lstO_run, seqA_cons, seqA_nil, c2, rb_ok]
    simp [ad, -List.map_append]
  · refine ⟨by omega, big, ab ++ [11209 + (ab.length : Int)], 0, ?_, ?_, pb, by simp, Int.le_refl _, by decide⟩
    · rw [List.getElem?_append_right (by simp)]
      simp
    · rw [List.getElem?_append_left (by simp), List.getElem?_append_right (Nat.le_refl _)]
      simp
end DL
namespace DL
open PySem PySem.Spec PyProof.Rows L2
/-! ### what is wanted of a mirror: step by step from the front -/
def Ok {α : Type} (r : R α) (Q : α → Store → Prop) : Prop := match r with
  | .ok a S => Q a S
  | _ => False
def OkS (r : RS) (Q : Fl → Frame → Store → Prop) : Prop := match r with
  | .ok fl fr S => Q fl fr S
  | _ => False
/-- behind a statement -/
def Then (g : SM) (Q : Fl → Frame → Store → Prop) (fl : Fl) (fr : Frame) (S : Store) : Prop := match fl with
  | .nx => OkS (g fr S) Q
  | fl => Q fl fr S
/-- a branch -/
def Br (b : Bool) (A B : Prop) : Prop := match b with
  | true => A
  | false => B
/-- behind a def's body -/
def Rt (Q : D → Store → Prop) (fl : Fl) (_ : Frame) (S : Store) : Prop := match fl with
  | .rt d => Q d S
  | .nx => Q .non S
  | _ => False
/-- behind a loop's body -/
def Lp (I : Frame → Store → Prop) (Q : Fl → Frame → Store → Prop) (fl : Fl) (fr : Frame) (S : Store) : Prop := match fl with
  | .nx => I fr S
  | .ct => I fr S
  | .bk => Q .nx fr S
  | .rt d => Q (.rt d) fr S
/-- what is walked -/
def SrcQ (src : Src) (P : List D → Prop) : Prop := ∃ xs, (∀ S, src S = some xs) ∧ P xs
theorem SrcQ.con {xs : List D} {P : List D → Prop} (h : P xs) : SrcQ (fun _ => some xs) P := ⟨xs, fun _ => rfl, h⟩
theorem SrcQ.tup {xs : List D} {P : List D → Prop} (h : P xs) : SrcQ (srcSeq (.tup xs)) P := ⟨xs, fun _ => rfl, h⟩
theorem SrcQ.ctu {xs : List D} {P : List D → Prop} (h : P xs) : SrcQ (srcSeq (.ctu xs)) P := ⟨xs, fun _ => rfl, h⟩
theorem SrcQ.lst {xs : List D} {P : List D → Prop} (h : P xs) : SrcQ (srcSeq (.lst xs)) P := ⟨xs, fun _ => rfl, h⟩
def ItQ (Q : Src → Store → Prop) (d : D) (S : Store) : Prop := (∃ l, seqL S d = some l) ∧ Q (srcSeq d) S
theorem ItQ.tup {Q : Src → Store → Prop} {l : List D} {S : Store} (h : Q (srcSeq (.tup l)) S) : ItQ Q (.tup l) S := ⟨⟨l, rfl⟩, h⟩
theorem ItQ.ctu {Q : Src → Store → Prop} {l : List D} {S : Store} (h : Q (srcSeq (.ctu l)) S) : ItQ Q (.ctu l) S := ⟨⟨l, rfl⟩, h⟩
theorem ItQ.lst {Q : Src → Store → Prop} {l : List D} {S : Store} (h : Q (srcSeq (.lst l)) S) : ItQ Q (.lst l) S := ⟨⟨l, rfl⟩, h⟩
/-- a frame that is to be worked out -/
def Fr (fr : Frame) (P : Frame → Prop) : Prop := P fr
theorem Fr.go {fr : Frame} {P : Frame → Prop} (h : ∀ fr', fr = fr' → P fr') : Fr fr P := h fr rfl
section
variable {α β : Type} {Q : α → Store → Prop} {P : β → Store → Prop} {S S1 : Store} {fr : Frame} {QD : D → Store → Prop} {QB : Bool → Store → Prop} {QF : Frame → Store → Prop} {QL : List D → Store → Prop} {QS : Fl → Frame → Store → Prop} {i j : Int} {n m : Nat} {d : D} {x y z : D} {l l' : List D} {a b : Str} {bb : Bool}
theorem Ok.of {r : R α} {v : α} (h : r = .ok v S1) (q : Q v S1) : Ok r Q := by rw [h]; exact q
theorem Ok.ex {r : R α} (h : Ok r Q) : ∃ v S', r = .ok v S' ∧ Q v S' := by
  cases r with
  | ok v S' => exact ⟨v, S', rfl, h⟩
  | _ => exact h.elim
theorem Ok.imp {r : R α} {Q' : α → Store → Prop} (h : Ok r Q) (k : ∀ v S', Q v S' → Q' v S') : Ok r Q' := by
  cases r with
  | ok v S' => exact k _ _ h
  | _ => exact h.elim
theorem Ok.ok {v : α} (q : Q v S) : Ok (.ok v S) Q := q
theorem Ok.ret {v : α} (q : Q v S) : Ok (DL.ret v S) Q := q
theorem OkS.of {r : RS} {fl : Fl} {fr : Frame} (h : r = .ok fl fr S1) (q : QS fl fr S1) : OkS r QS := by rw [h]; exact q
theorem OkS.ex {r : RS} (h : OkS r QS) : ∃ fl fr S', r = .ok fl fr S' ∧ QS fl fr S' := by
  cases r with
  | ok fl fr S' => exact ⟨fl, fr, S', rfl, h⟩
  | _ => exact h.elim
theorem OkS.imp {r : RS} {Q' : Fl → Frame → Store → Prop} (h : OkS r QS) (k : ∀ fl fr S', QS fl fr S' → Q' fl fr S') : OkS r Q' := by
  cases r with
  | ok fl fr S' => exact k _ _ _ h
  | _ => exact h.elim
theorem OkS.ok {fl : Fl} (q : QS fl fr S) : OkS (.ok fl fr S) QS := q
theorem Ok.bnd {mm : M β} {f : β → M α} (h : Ok (mm S) fun v S' => Ok (f v S') Q) : Ok (DL.bnd mm f S) Q := by
  obtain ⟨v, S', e, q⟩ := h.ex
  rw [bnd_ok e]
  exact q
theorem Ok.bndS {mm : M β} {f : β → M α} (h : Ok (mm S) fun v S' => Ok (f v S') Q) : Ok (DL.bnd mm (fun x => f x) S) Q := Ok.bnd h
theorem Ok.rb {r : R β} {f : β → Store → R α} (h : Ok r fun v S' => Ok (f v S') Q) : Ok (DL.rb r f) Q := by
  obtain ⟨v, S', e, q⟩ := h.ex
  rw [e]
  exact q
theorem Ok.nox {mm : M α} (h : Ok (mm S) Q) : Ok (DL.nox mm S) Q := by
  obtain ⟨v, S', e, q⟩ := h.ex
  exact Ok.of (nox_ok e) q
theorem OkS.exS {r : R β} {k : β → Store → RS} (h : Ok r fun v S' => OkS (k v S') QS) : OkS (DL.exS r fr k) QS := by
  obtain ⟨v, S', e, q⟩ := h.ex
  rw [e]
  exact q
/-! branches -/
theorem Br.t {A B : Prop} (h : A) : Br true A B := h
theorem Br.f {A B : Prop} (h : B) : Br false A B := h
theorem Br.dt {p : Prop} [Decidable p] {A B : Prop} (hp : p) (h : A) : Br (decide p) A B := by rw [decide_eq_true hp]; exact h
theorem Br.df {p : Prop} [Decidable p] {A B : Prop} (hp : ¬p) (h : B) : Br (decide p) A B := by rw [decide_eq_false hp]; exact h
theorem Br.not {A B : Prop} (h : Br bb B A) : Br (!bb) A B := by cases bb <;> exact h
theorem Br.sp {A B : Prop} (h : bb = true → A) (h' : bb = false → B) : Br bb A B := by
  cases bb with
  | true => exact h rfl
  | false => exact h' rfl
theorem Br.spd {p : Prop} [Decidable p] {A B : Prop} (h : p → A) (h' : ¬p → B) : Br (decide p) A B := by
  by_cases hp : p
  · exact Br.dt hp (h hp)
  · exact Br.df hp (h' hp)
theorem Br.tt {A B : Prop} (e : bb = true) (h : A) : Br bb A B := by rw [e]; exact h
theorem Br.ff {A B : Prop} (e : bb = false) (h : B) : Br bb A B := by rw [e]; exact h
theorem Br.join {f g : Frame → M D} (h : ∃ x y, f fr S = .ok x S ∧ g fr S = .ok y S ∧ QD (bif bb then x else y) S) : Br bb (Ok (f fr S) QD) (Ok (g fr S) QD) := by
  obtain ⟨x, y, e1, e2, h⟩ := h
  cases bb with
  | true => exact Ok.of e1 h
  | false => exact Ok.of e2 h
/-! expressions -/
theorem Ok.var {k : Nat} (h : ∃ d, fr[k]? = some (some d) ∧ QD d S) : Ok (varF k fr S) QD := by
  obtain ⟨d, e, h⟩ := h
  unfold varF
  rw [e]
  exact h
theorem Ok.cst (h : QD d S) : Ok (cstF d fr S) QD := h
theorem Ok.bin {g : D → D → M D} {f k : Frame → M D} (h : Ok (f fr S) fun x S1 => Ok (k fr S1) fun y S2 => Ok (g x y S2) QD) : Ok (binF g f k fr S) QD := Ok.bnd (h.imp fun _ _ q => Ok.bnd q)
theorem Ok.un {g : D → M D} {f : Frame → M D} (h : Ok (f fr S) fun x S1 => Ok (g x S1) QD) : Ok (unF g f fr S) QD := Ok.bnd h
theorem Ok.calp {g : List D → M D} {fs : List (Frame → M D)} (h : Ok (seqA fs fr S) fun l S1 => Ok (g l S1) QD) : Ok (calF (fun xs => g (xs ++ [])) fs fr S) QD := Ok.bnd (h.imp fun v _ q => by rw [List.append_nil]; exact q)
theorem Ok.cal {g : List D → M D} {fs : List (Frame → M D)} (h : Ok (seqA fs fr S) fun l S1 => Ok (g l S1) QD) : Ok (calF g fs fr S) QD := Ok.bnd h
theorem Ok.anil (h : QL [] S) : Ok (seqA [] fr S) QL := h
theorem Ok.acons {f : Frame → M D} {fs : List (Frame → M D)} (h : Ok (f fr S) fun x S1 => Ok (seqA fs fr S1) fun xs S2 => QL (x :: xs) S2) : Ok (seqA (f :: fs) fr S) QL := Ok.bnd (h.imp fun _ _ q => Ok.bnd (q.imp fun _ _ q => q))
theorem Ok.tup {fs : List (Frame → M D)} (h : Ok (seqA fs fr S) fun l S1 => QD (.tup l) S1) : Ok (tupF fs fr S) QD := Ok.bnd (h.imp fun _ _ q => q)
theorem Ok.lst {fs : List (Frame → M D)} (h : Ok (seqA fs fr S) fun l S1 => QD (.lst l) S1) : Ok (lstF fs fr S) QD := Ok.bnd (h.imp fun _ _ q => q)
theorem Ok.lstO {fs : List (Frame → M D)} (h : Ok (seqA fs fr S) fun l S1 => QD (.ob S1.length) (S1 ++ [some (.lst l)])) : Ok (DL.lstO fs fr S) QD := Ok.bnd (h.imp fun _ _ q => q)
theorem Ok.newO {o : O} (h : QD (.ob S.length) (S ++ [some o])) : Ok (DL.newO o S) QD := h
theorem Ok.tb {f : Frame → M D} (h : Ok (f fr S) fun x S1 => Ok (tsb x S1) QB) : Ok (tbF f fr S) QB := Ok.bnd h
theorem Ok.tst {f : Frame → M D} (h : Ok (f fr S) fun x S1 => Ok (truF x S1) QB) : Ok (tstF f fr S) QB := Ok.bnd h
theorem Ok.tsb (h : QB bb S) : Ok (DL.tsb (.bl bb) S) QB := h
theorem Ok.tru_bl (h : QB bb S) : Ok (truF (.bl bb) S) QB := h
theorem Ok.tru_int (h : QB (i != 0) S) : Ok (truF (.int i) S) QB := h
theorem Ok.tru_non (h : QB false S) : Ok (truF .non S) QB := h
theorem Ok.tru_tup (h : QB (!l.isEmpty) S) : Ok (truF (.tup l) S) QB := h
theorem Ok.tru_lst (h : QB (!l.isEmpty) S) : Ok (truF (.lst l) S) QB := h
theorem Ok.notF {f : Frame → M Bool} (h : Ok (f fr S) fun b S1 => QB (!b) S1) : Ok (DL.notF f fr S) QB := Ok.bnd (h.imp fun _ _ q => q)
theorem Ok.andF {f g : Frame → M Bool} (h : Ok (f fr S) fun b S1 => Br b (Ok (g fr S1) QB) (QB false S1)) : Ok (DL.andF f g fr S) QB := Ok.bnd (h.imp fun b _ q => by cases b <;> exact q)
theorem Ok.orF {f g : Frame → M Bool} (h : Ok (f fr S) fun b S1 => Br b (QB true S1) (Ok (g fr S1) QB)) : Ok (DL.orF f g fr S) QB := Ok.bnd (h.imp fun b _ q => by cases b <;> exact q)
theorem Ok.boolF {f : Frame → M Bool} (h : Ok (f fr S) fun b S1 => QD (.bl b) S1) : Ok (DL.boolF f fr S) QD := Ok.bnd (h.imp fun _ _ q => q)
theorem Ok.ite {c : Frame → M Bool} {f g : Frame → M D} (h : Ok (c fr S) fun b S1 => Br b (Ok (f fr S1) QD) (Ok (g fr S1) QD)) : Ok (iteF c f g fr S) QD := Ok.bnd (h.imp fun b _ q => by cases b <;> exact q)
theorem Ok.andV {f g : Frame → M D} (h : Ok (f fr S) fun x S1 => Ok (DL.tsb x S1) fun b S2 => Br b (Ok (g fr S2) QD) (QD (.bl false) S2)) : Ok (DL.andV f g fr S) QD := Ok.bnd (h.imp fun x _ q => Ok.bnd (q.imp fun b _ q => by cases b <;> exact q))
theorem Ok.orV {f g : Frame → M D} (h : Ok (f fr S) fun x S1 => Ok (DL.tsb x S1) fun b S2 => Br b (QD (.bl true) S2) (Ok (g fr S2) QD)) : Ok (DL.orV f g fr S) QD := Ok.bnd (h.imp fun x _ q => Ok.bnd (q.imp fun b _ q => by cases b <;> exact q))
theorem Ok.notV {f : Frame → M D} (h : Ok (f fr S) fun x S1 => Ok (DL.tsb x S1) fun b S2 => QD (.bl !b) S2) : Ok (DL.notV f fr S) QD := Ok.bnd (h.imp fun x _ q => Ok.bnd (q.imp fun b _ q => q))
theorem Ok.yes (h : QB true S) : Ok (yesF fr S) QB := h
theorem Ok.prtN {QO : Option Int → Store → Prop} (h : QO none S) : Ok (prtF none fr S) QO := h
theorem Ok.prtS {QO : Option Int → Store → Prop} {f : Frame → M D} (h : Ok (f fr S) fun x S1 => ∃ i, x = .int i ∧ QO (some i) S1) : Ok (prtF (some f) fr S) QO := Ok.bnd (h.imp fun x S1 q => by obtain ⟨i, rfl, q⟩ := q; exact q)
theorem Ok.sli {g : D → Option Int → Option Int → M D} {f : Frame → M D} {lo hi : Option (Frame → M D)} (h : Ok (f fr S) fun x S1 => Ok (prtF lo fr S1) fun l S2 => Ok (prtF hi fr S2) fun u S3 => Ok (g x l u S3) QD) : Ok (sliF g f lo hi fr S) QD :=
  Ok.bnd (h.imp fun _ _ q => Ok.bnd (q.imp fun _ _ q => Ok.bnd q))
theorem Ok.exi {v : Int} {T : Int → Prop} (h : T v) : ∃ i, D.int v = .int i ∧ T i := ⟨v, rfl, h⟩
theorem Ok.met {T : String} {g : D → List D → M D} {f : Frame → M D} {fs : List (Frame → M D)} (h : Ok (f fr S) fun o S1 => tyR S1 T o = true ∧ Ok (seqA fs fr S1) fun xs S2 => Ok (g o xs S2) QD) : Ok (metF T g f fs fr S) QD := by
  rw [metF_run]
  refine Ok.rb (h.imp fun o S1 q => ?_)
  rw [if_pos q.1]
  exact Ok.rb q.2
theorem Ok.chF {g g' : D → D → M D} {f1 f2 f3 : Frame → M D} (h : Ok (f1 fr S) fun x S1 => Ok (f2 fr S1) fun y S2 => Ok (g x y S2) fun z S3 => ∃ b, z = .bl b ∧ Br b (Ok (f3 fr S3) fun w S4 => Ok (g' y w S4) QD) (QD (.bl false) S3)) : Ok (DL.chF g g' f1 f2 f3 fr S) QD := by
  unfold DL.chF
  refine Ok.bnd (h.imp fun x S1 q => Ok.bnd (q.imp fun y S2 q => Ok.bnd (q.imp fun z S3 q => ?_)))
  obtain ⟨b, rfl, q⟩ := q
  cases b with
  | true => exact Ok.bnd q
  | false => exact q
theorem Ok.exb {v : Bool} {T : Bool → Prop} (h : T v) : ∃ i, D.bl v = .bl i ∧ T i := ⟨v, rfl, h⟩
/-! operations -/
theorem Ok.add_ii (h : QD (.int (i + j)) S) : Ok (addD (.int i) (.int j) S) QD := h
theorem Ok.add_tt (hl : l.length + l'.length ≤ 1000) (h : QD (.tup (l ++ l')) S) : Ok (addD (.tup l) (.tup l') S) QD := Ok.of (add_tup (by rw [sizeLine_eq]; omega)) h
theorem Ok.add_ll (hl : l.length + l'.length ≤ 1000) (h : QD (.lst (l ++ l')) S) : Ok (addD (.lst l) (.lst l') S) QD := Ok.of (add_lst (by rw [sizeLine_eq]; omega)) h
theorem Ok.add_ss (hl : a.length + b.length ≤ 1000) (h : QD (.str (a ++ b)) S) : Ok (addD (.str a) (.str b) S) QD := Ok.of (show addD (.str a) (.str b) S = .ok (.str (a ++ b)) S from if_pos (by rw [sizeLine_eq]; omega)) h
theorem Ok.sub_ii (h : QD (.int (i - j)) S) : Ok (subD (.int i) (.int j) S) QD := h
theorem Ok.neg_i (h : QD (.int (-i)) S) : Ok (negD (.int i) S) QD := h
theorem Ok.lt_ii (h : QD (.bl (decide (i < j))) S) : Ok (ltD (.int i) (.int j) S) QD := h
theorem Ok.le_ii (h : QD (.bl (decide (i ≤ j))) S) : Ok (leD (.int i) (.int j) S) QD := h
theorem Ok.gt_ii (h : QD (.bl (decide (j < i))) S) : Ok (gtD (.int i) (.int j) S) QD := h
theorem Ok.ge_ii (h : QD (.bl (decide (j ≤ i))) S) : Ok (geD (.int i) (.int j) S) QD := h
theorem Ok.eq_ii (h : QD (.bl (decide (i = j))) S) : Ok (eqD (.int i) (.int j) S) QD := by rw [eq_int]; exact h
theorem Ok.ne_ii (h : QD (.bl (!decide (i = j))) S) : Ok (neD (.int i) (.int j) S) QD := by rw [ne_int]; exact h
theorem Ok.eq_ss (h : QD (.bl (decide (a = b))) S) : Ok (eqD (.str a) (.str b) S) QD := h
theorem Ok.ne_ss (h : QD (.bl (!decide (a = b))) S) : Ok (neD (.str a) (.str b) S) QD := h
theorem Ok.in_ss (h : QD (.bl (strIn a b)) S) : Ok (inD (.str a) (.str b) S) QD := h
theorem Ok.nin_ss (h : QD (.bl (!strIn a b)) S) : Ok (notInD (.str a) (.str b) S) QD := h
theorem Ok.is_nn (h : QD (.bl true) S) : Ok (isND .non .non S) QD := h
theorem Ok.int_i (h : QD (.int i) S) : Ok (intD [.int i] S) QD := h
theorem Ok.int_b (h : QD (.int (if bb then 1 else 0)) S) : Ok (intD [.bl bb] S) QD := h
theorem Ok.str_s (h : QD (.str a) S) : Ok (strD [.str a] S) QD := h
theorem Ok.max_ii (h : QD (.int (if j > i then j else i)) S) : Ok (max2D [.int i, .int j] S) QD := h
theorem Ok.min_ii (h : QD (.int (if j < i then j else i)) S) : Ok (min2D [.int i, .int j] S) QD := h
theorem Ok.mod_ii (h0 : 0 < j) (h : QD (.int (i % j)) S) : Ok (modD (.int i) (.int j) S) QD := by rw [mod_int h0]; exact h
theorem Ok.len_t (h : QD (.int (l.length : Nat)) S) : Ok (lenD [.tup l] S) QD := h
theorem Ok.len_l (h : QD (.int (l.length : Nat)) S) : Ok (lenD [.lst l] S) QD := h
theorem Ok.tup_t (h : QD (.tup l) S) : Ok (tupleD [.tup l] S) QD := h
theorem Ok.tup_l (h : QD (.tup l) S) : Ok (tupleD [.lst l] S) QD := h
theorem Ok.lst_t (h : QD (.lst l) S) : Ok (listD [.tup l] S) QD := h
theorem Ok.lst_l (h : QD (.lst l) S) : Ok (listD [.lst l] S) QD := h
theorem Ok.ix_t (h : ∃ d, atI l i = some d ∧ QD d S) : Ok (ixD (.tup l) (.int i) S) QD := by obtain ⟨d, e, h⟩ := h; rw [ix_tup e]; exact h
theorem Ok.ix_l (h : ∃ d, atI l i = some d ∧ QD d S) : Ok (ixD (.lst l) (.int i) S) QD := by obtain ⟨d, e, h⟩ := h; rw [ix_lst e]; exact h
theorem Ok.ix_o (e0 : S[n]? = some (some (.lst l))) (e : atI l i = some d) (h : QD d S) : Ok (ixD (.ob n) (.int i) S) QD := by rw [ix_ob e0 e]; exact h
theorem Ok.sli_t {lo hi : Option Int} (h : QD (.tup (DL.cutD l lo hi)) S) : Ok (sliD (.tup l) lo hi S) QD := h
theorem Ok.sli_l {lo hi : Option Int} (h : QD (.lst (DL.cutD l lo hi)) S) : Ok (sliD (.lst l) lo hi S) QD := h
theorem Ok.app_o (e : S[n]? = some (some (.lst l))) (z : l.length < 1000) (h : QD .non (S.set n (some (.lst (l ++ [d]))))) : Ok (appD (.ob n) [d] S) QD := Ok.of (app_ob e (by rw [sizeLine_eq]; omega)) h
/-! statements -/
theorem OkS.seq {f g : SM} (h : OkS (f fr S) (Then g QS)) : OkS (seqS f g fr S) QS := by
  obtain ⟨fl, fr', S', e, q⟩ := h.ex
  unfold seqS
  rw [e]
  cases fl <;> exact q
theorem Then.nx {g : SM} (h : OkS (g fr S) QS) : Then g QS .nx fr S := h
theorem Then.rt {g : SM} (h : QS (.rt d) fr S) : Then g QS (.rt d) fr S := h
theorem Then.bk {g : SM} (h : QS .bk fr S) : Then g QS .bk fr S := h
theorem Then.ct {g : SM} (h : QS .ct fr S) : Then g QS .ct fr S := h
theorem Rt.rt (h : QD d S) : Rt QD (.rt d) fr S := h
theorem Rt.nx (h : QD .non S) : Rt QD .nx fr S := h
theorem Lp.nx {I : Frame → Store → Prop} (h : I fr S) : Lp I QS .nx fr S := h
theorem Lp.ct {I : Frame → Store → Prop} (h : I fr S) : Lp I QS .ct fr S := h
theorem Lp.bk {I : Frame → Store → Prop} (h : QS .nx fr S) : Lp I QS .bk fr S := h
theorem Lp.rt {I : Frame → Store → Prop} (h : QS (.rt d) fr S) : Lp I QS (.rt d) fr S := h
theorem OkS.asg {k : Nat} {f : Frame → M D} (h : Ok (f fr S) fun d S1 => Fr (fr.set k (some d)) fun fr => QS .nx fr S1) : OkS (asgF k f fr S) QS := OkS.exS h
theorem OkS.ret {f : Frame → M D} (h : Ok (f fr S) fun d S1 => QS (.rt d) fr S1) : OkS (retF f fr S) QS := OkS.exS h
theorem OkS.retN (h : QS (.rt .non) fr S) : OkS (DL.retN fr S) QS := h
theorem OkS.expr {f : Frame → M D} (h : Ok (f fr S) fun _ S1 => QS .nx fr S1) : OkS (exprF f fr S) QS := OkS.exS h
theorem OkS.nx (h : QS .nx fr S) : OkS (nxF fr S) QS := h
theorem OkS.bk (h : QS .bk fr S) : OkS (bkF fr S) QS := h
theorem OkS.ct (h : QS .ct fr S) : OkS (ctF fr S) QS := h
theorem OkS.ifS {c : Frame → M Bool} {f g : SM} (h : Ok (c fr S) fun b S1 => Br b (OkS (f fr S1) QS) (OkS (g fr S1) QS)) : OkS (DL.ifS c f g fr S) QS := OkS.exS (h.imp fun b _ q => by cases b <;> exact q)
theorem OkS.asgG {g : D → Frame → M Frame} {f : Frame → M D} (h : Ok (f fr S) fun d S1 => Ok (g d fr S1) fun fr' S2 => QS .nx fr' S2) : OkS (DL.asgG g f fr S) QS := OkS.exS (h.imp fun d S1 q => by
  obtain ⟨fr', S2, e, q⟩ := q.ex
  rw [e]
  exact q)
theorem OkS.par {is : List Nat} {fs : List (Frame → M D)} (h : Ok (seqA fs fr S) fun l S1 => Fr (setAll fr is l) fun fr => QS .nx fr S1) : OkS (parF is fs fr S) QS := OkS.exS h
theorem OkS.aug {k : Nat} {g : D → D → M D} {f : Frame → M D} (h : ∃ x, fr[k]? = some (some x) ∧ Ok (f fr S) fun y S1 => Ok (g x y S1) fun z S2 => Fr (fr.set k (some z)) fun fr => QS .nx fr S2) : OkS (augF k g f fr S) QS := by
  obtain ⟨x, e, h⟩ := h
  unfold augF
  rw [e]
  exact OkS.exS (h.imp fun y S1 q => OkS.exS q)
theorem Ok.iadd_ii (h : QD (.int (i + j)) S) : Ok (iaddD (.int i) (.int j) S) QD := h
theorem Ok.isub_ii (h : QD (.int (i - j)) S) : Ok (isubD (.int i) (.int j) S) QD := h
theorem Ok.tgN {k : Nat} (h : Fr (fr.set k (some d)) fun fr => QF fr S) : Ok (tgName k d fr S) QF := h
theorem Ok.tgT {gs : List (D → Frame → M Frame)} (e : l.length = gs.length) (h : Ok (tgAll gs l fr S) QF) : Ok (tgTup gs (.tup l) fr S) QF := by rw [tgTup_run e]; exact h
theorem Ok.tgA0 (h : QF fr S) : Ok (tgAll [] [] fr S) QF := h
theorem Ok.tgA {g : D → Frame → M Frame} {gs : List (D → Frame → M Frame)} (h : Ok (g d fr S) fun fr1 S1 => Ok (tgAll gs l fr1 S1) QF) : Ok (tgAll (g :: gs) (d :: l) fr S) QF := by rw [tgAll_cons]; exact Ok.rb h
theorem Ok.tgSub {fo fi : Frame → M D} (h : Ok (fo fr S) fun o S1 => Ok (fi fr S1) fun i S2 => Ok (setD o i d S2) fun _ S3 => QF fr S3) : Ok (DL.tgSub fo fi d fr S) QF := by
  unfold DL.tgSub
  exact Ok.bnd (Ok.nox (h.imp fun o S1 q => Ok.bnd (Ok.nox (q.imp fun i S2 q => Ok.bnd (q.imp fun _ _ q => q)))))
theorem Ok.def_ {N : Nat} {B : SM} {ds : List D} (h : OkS (B (frame0 N ds) S) (Rt QD)) : Ok (defF N B ds S) QD := by
  obtain ⟨fl, fr, S', e, q⟩ := h.ex
  unfold defF
  refine Ok.nox ?_
  unfold bodyF
  rw [e]
  cases fl <;> first | exact q | exact q.elim
/-! loops -/
theorem loop_ok {I : Nat → Frame → Store → Prop} {g : D → Frame → M Frame} {body : SM} (xs : List D) (step : ∀ i x fr S, xs[i]? = some x → I i fr S → Ok (g x fr S) fun fr1 S1 => OkS (body fr1 S1) (Lp (I (i + 1)) QS)) (done : ∀ fr S, I xs.length fr S → QS .nx fr S) :
    ∀ (l : List D) (k : Nat) (fr : Frame) (S : Store), xs.drop k = l → k ≤ xs.length → I k fr S → OkS (loopL g body l fr S) QS
  | [], k, fr, S, hl, hk, h => by
    have : k = xs.length := by have := List.drop_eq_nil_iff.mp hl; omega
    subst this
    exact done fr S h
  | x :: r, k, fr, S, hl, hk, h => by
    have hlt : k < xs.length := by
      by_cases hlt : k < xs.length
      · exact hlt
      · rw [List.drop_eq_nil_of_le (by omega)] at hl; cases hl
    rw [List.drop_eq_getElem_cons hlt] at hl
    injection hl with hx hr
    obtain ⟨fr1, S1, e1, q1⟩ := (step k x fr S (by rw [← hx]; exact List.getElem?_eq_getElem hlt) h).ex
    obtain ⟨fl, fr2, S2, e2, q2⟩ := q1.ex
    unfold loopL
    rw [e1]
    dsimp only
    rw [e2]
    cases fl with
    | nx => exact loop_ok xs step done r (k + 1) fr2 S2 hr hlt q2
    | ct => exact loop_ok xs step done r (k + 1) fr2 S2 hr hlt q2
    | bk => exact q2
    | rt d => exact q2
/-- a for over what does not change -/
theorem OkS.for_ {I : Nat → Frame → Store → Prop} {f : Frame → M Src} {g : D → Frame → M Frame} {body : SM} (xs : List D) (hf : Ok (f fr S) fun src S1 => (∀ S, src S = some xs) ∧ I 0 fr S1)
    (step : ∀ i x fr S, xs[i]? = some x → I i fr S → Ok (g x fr S) fun fr1 S1 => OkS (body fr1 S1) (Lp (I (i + 1)) QS)) (done : ∀ fr S, I xs.length fr S → QS .nx fr S) : OkS (forF f g body fr S) QS := by
  obtain ⟨src, S1, e, hs, h0⟩ := hf.ex
  rw [for_ok e hs]
  exact loop_ok xs step done xs 0 fr S1 rfl (Nat.zero_le _) h0
theorem OkS.fore {f : Frame → M Src} {g : D → Frame → M Frame} {body : SM} (h : Ok (f fr S) fun src S1 => SrcQ src fun xs => OkS (loopL g body xs fr S1) QS) : OkS (forF f g body fr S) QS := by
  obtain ⟨src, S1, e, xs, hs, h⟩ := h.ex
  rw [for_ok e hs]
  exact h
theorem OkS.loop {I : Nat → Frame → Store → Prop} {g : D → Frame → M Frame} {body : SM} {xs : List D} (h0 : I 0 fr S)
    (step : ∀ i x fr S, xs[i]? = some x → I i fr S → Ok (g x fr S) fun fr1 S1 => OkS (body fr1 S1) (Lp (I (i + 1)) QS)) (done : ∀ fr S, I xs.length fr S → QS .nx fr S) : OkS (loopL g body xs fr S) QS :=
  loop_ok xs step done xs 0 fr S rfl (Nat.zero_le _) h0
theorem Ok.itT {QR : Src → Store → Prop} {f : Frame → M D} (h : Ok (f fr S) (ItQ QR)) : Ok (itF f fr S) QR := by
  unfold itF
  refine Ok.bnd (h.imp fun d S1 q => ?_)
  obtain ⟨⟨l, e⟩, q⟩ := q
  rw [e]
  exact q
theorem src_tup : ∀ S, srcSeq (.tup l) S = some l := fun _ => rfl
theorem src_lst : ∀ S, srcSeq (.lst l) S = some l := fun _ => rfl
theorem Ok.rngF {QR : Src → Store → Prop} {f : List D → M Src} {fs : List (Frame → M D)} (h : Ok (seqA fs fr S) fun l S1 => Ok (f l S1) QR) : Ok (DL.rngF f fs fr S) QR := Ok.bnd h
theorem Ok.rng1 {QR : Src → Store → Prop} {i : Int} (h0 : i.natAbs ≤ 1000000) (h : QR (fun _ => some (rngL 0 i.toNat)) S) : Ok (DL.rng1 [.int i] S) QR := by
  unfold DL.rng1
  show Ok (if _ then _ else _) _
  rw [if_pos ⟨by omega, by omega⟩]
  exact h
theorem Ok.rng2 {QR : Src → Store → Prop} {i j : Int} (h0 : i.natAbs ≤ 1000000) (h1 : j.natAbs ≤ 1000000) (h : QR (fun _ => some (rngL i (j - i).toNat)) S) : Ok (DL.rng2 [.int i, .int j] S) QR := by
  unfold DL.rng2
  show Ok (if _ then _ else _) _
  rw [if_pos ⟨by omega, by omega, by omega, by omega⟩]
  exact h
theorem itL_ok {I : Nat → List D → Store → Prop} {g : D → Frame → M Frame} {t : Frame → M Bool} {elt : Frame → M D} {fr : Frame} (xs : List D)
    (step : ∀ i x ys S, xs[i]? = some x → I i ys S → Ok (g x fr S) fun fr1 S1 => Ok (t fr1 S1) fun b S2 => Br b (Ok (elt fr1 S2) fun y S3 => I (i + 1) (ys ++ [y]) S3) (I (i + 1) ys S2)) :
    ∀ (l : List D) (k : Nat) (ys : List D) (S : Store), xs.drop k = l → k ≤ xs.length → I k ys S → Ok (itL g t elt fr l S) fun zs S' => I xs.length (ys ++ zs) S'
  | [], k, ys, S, hl, hk, h => by
    have : k = xs.length := by have := List.drop_eq_nil_iff.mp hl; omega
    subst this
    show I xs.length (ys ++ []) S
    rw [List.append_nil]
    exact h
  | x :: r, k, ys, S, hl, hk, h => by
    have hlt : k < xs.length := by
      by_cases hlt : k < xs.length
      · exact hlt
      · rw [List.drop_eq_nil_of_le (by omega)] at hl; cases hl
    rw [List.drop_eq_getElem_cons hlt] at hl
    injection hl with hx hr
    unfold itL
    refine Ok.bnd ((step k x ys S (by rw [← hx]; exact List.getElem?_eq_getElem hlt) h).imp fun fr1 S1 q => Ok.bnd (q.imp fun b S2 q => ?_))
    cases b with
    | true =>
      rw [if_pos rfl]
      refine Ok.bnd (Ok.imp q fun y S3 q => Ok.bnd ((itL_ok xs step r (k + 1) _ S3 hr hlt q).imp fun zs S4 q => ?_))
      show I xs.length (ys ++ y :: zs) S4
      rw [List.append_assoc] at q
      exact q
    | false =>
      rw [if_neg Bool.false_ne_true]
      exact itL_ok xs step r (k + 1) ys S2 hr hlt q
/-- a comprehension -/
theorem Ok.cmpF {I : Nat → List D → Store → Prop} {vs : List Nat} {f : Frame → M Src} {g : D → Frame → M Frame} {t : Frame → M Bool} {elt : Frame → M D} (xs : List D) (hf : Ok (f fr S) fun src S1 => (∀ S, src S = some xs) ∧ I 0 [] S1) (hl : xs.length ≤ 1000)
    (step : ∀ i x ys S, xs[i]? = some x → I i ys S → Fr (wipeF fr vs) fun fr => Ok (g x fr S) fun fr1 S1 => Ok (t fr1 S1) fun b S2 => Br b (Ok (elt fr1 S2) fun y S3 => I (i + 1) (ys ++ [y]) S3) (I (i + 1) ys S2))
    (done : ∀ ys S, I xs.length ys S → QL ys S) : Ok (DL.cmpF vs f g t elt fr S) QL := by
  obtain ⟨src, S1, e, hs, h0⟩ := hf.ex
  obtain ⟨zs, S2, e2, q⟩ := (itL_ok xs step xs 0 [] S1 rfl (Nat.zero_le _) h0).ex
  exact Ok.of (cmpF_ok e hs (by rw [sizeLine_eq]; omega) e2) (done _ _ (by simpa using q))
theorem Ok.cmpe {vs : List Nat} {f : Frame → M Src} {g : D → Frame → M Frame} {t : Frame → M Bool} {elt : Frame → M D} (h : Ok (f fr S) fun src S1 => SrcQ src fun xs => xs.length ≤ 1000 ∧ Fr (wipeF fr vs) fun fr => Ok (itL g t elt fr xs S1) QL) : Ok (DL.cmpF vs f g t elt fr S) QL := by
  obtain ⟨src, S1, e, xs, hs, hl, h⟩ := h.ex
  obtain ⟨zs, S2, e2, q⟩ := Ok.ex h
  exact Ok.of (cmpF_ok e hs (by rw [sizeLine_eq]; omega) e2) q
theorem Ok.itl {I : Nat → List D → Store → Prop} {g : D → Frame → M Frame} {t : Frame → M Bool} {elt : Frame → M D} {xs : List D} (h0 : I 0 [] S)
    (step : ∀ i x ys S, xs[i]? = some x → I i ys S → Ok (g x fr S) fun fr1 S1 => Ok (t fr1 S1) fun b S2 => Br b (Ok (elt fr1 S2) fun y S3 => I (i + 1) (ys ++ [y]) S3) (I (i + 1) ys S2))
    (done : ∀ ys S, I xs.length ys S → QL ys S) : Ok (itL g t elt fr xs S) QL := (itL_ok xs step xs 0 [] S rfl (Nat.zero_le _) h0).imp fun zs S' q => done _ _ (by simpa using q)
theorem Ok.cmpD {vs : List Nat} {f : Frame → M Src} {g : D → Frame → M Frame} {t : Frame → M Bool} {elt : Frame → M D} (h : Ok (DL.cmpF vs f g t elt fr S) fun l S1 => QD (.lst l) S1) : Ok (DL.cmpD vs f g t elt fr S) QD := Ok.bnd (h.imp fun _ _ q => q)
theorem Ok.cmpO {vs : List Nat} {f : Frame → M Src} {g : D → Frame → M Frame} {t : Frame → M Bool} {elt : Frame → M D} (h : Ok (DL.cmpF vs f g t elt fr S) fun l S1 => QD (.ob S1.length) (S1 ++ [some (.lst l)])) : Ok (DL.cmpO vs f g t elt fr S) QD := Ok.bnd (h.imp fun _ _ q => q)
/-! draws -/
theorem Ok.draw {q : Nat} {many : Int} (dk : Dk n m q S) (hb : 1 ≤ q) (h0 : 0 < many) (h1 : many < 2 ^ 40) (h : ∀ r S', 0 ≤ r → r < many → Dk n m (q - 1) S' → Keep n m S S' → QD (.int r) S') : Ok (defF 5 drawB [.ob n, .int many] S) QD := by
  obtain ⟨a, S', e, ⟨r, rfl, r0, r1⟩, dk', k⟩ := draw_run (n := n) (m := m) h0 h1 (q - 1) S (by rw [Nat.sub_add_cancel hb]; exact dk)
  exact Ok.of e (h r S' r0 r1 dk' k)
noncomputable def oneB (F : List D → M D) : SM := retF (binF ixD (varF 1) (calF (fun xs => F (xs ++ [])) [varF 0, calF lenD [varF 1]]))
theorem Ok.one {q : Nat} (dk : Dk n m q S) (hb : 1 ≤ q) (hx : x = .lst l ∨ x = .tup l) (h0 : l ≠ []) (h1 : l.length < 2 ^ 30) (h : ∀ x S', x ∈ l → Dk n m (q - 1) S' → Keep n m S S' → QD x S') : Ok (defF 2 (oneB (defF 5 drawB)) [.ob n, x] S) QD := by
  obtain ⟨a, S', e, p, dk', k⟩ := one_run (n := n) (m := m) (fun many h0 h1 => draw_run (n := n) (m := m) h0 h1) hx h0 h1 (q - 1) S (by rw [Nat.sub_add_cancel hb]; exact dk)
  exact Ok.of e (h a S' p dk' k)
end
end DL
namespace DL
open PySem PySem.Spec PyProof.Rows L2
open SeqAt (shaped)
/-! ### data that can be compared and shown: its depth, a bound of its text's length -/
structure Rz (dep len : Nat) (d : D) : Prop where
  ex : ∃ p, py d = some p ∧ p.showable = true ∧ p.canLay0 = true ∧ p.depth ≤ dep ∧ p.shown.length ≤ len
theorem Rz.mono {a b a' b' : Nat} {d : D} (h : Rz a b d) (h1 : a ≤ a') (h2 : b ≤ b') : Rz a' b' d := by
  obtain ⟨p, e, x, y, z, w⟩ := h.ex
  exact ⟨p, e, x, y, Nat.le_trans z h1, Nat.le_trans w h2⟩
theorem Rz.non : Rz 0 4 .non := ⟨_, rfl, rfl, rfl, Nat.le_refl _, by decide +kernel⟩
theorem Rz.bl {b : Bool} : Rz 0 5 (.bl b) := ⟨_, rfl, rfl, rfl, Nat.le_refl _, by cases b <;> decide +kernel⟩
theorem ofStr_len (s : String) : (Str.ofString s).length = s.length := PySem.ofString_length s
theorem Rz.int {i : Int} (h : i.natAbs.log2 < 1920) : Rz 0 1921 (.int i) := by
  refine ⟨_, rfl, by simp [PyData.showable, h], rfl, Nat.le_refl _, ?_⟩
  show (Str.ofString (toString i)).length ≤ 1921
  rw [ofStr_len]
  have e := int_text_length_le (a := i) (k := 1920) (by decide) h
  omega
theorem log_lt {n k : Nat} (h : n < 2 ^ k) (hk : 0 < k) : n.log2 < k := by
  by_cases z : n = 0
  · subst z; simpa using hk
  · exact (Nat.log2_lt z).mpr h
theorem Rz.int10 {i : Int} (k : Nat) (hk : 0 < k) (h : i.natAbs < 10 ^ k) (h2 : k ≤ 480) : Rz 0 (k + 1) (.int i) := by
  refine ⟨_, rfl, ?_, rfl, Nat.le_refl _, ?_⟩
  · have : i.natAbs < 2 ^ (4 * k) := by
      refine Nat.lt_of_lt_of_le h ?_
      rw [Nat.pow_mul]
      exact Nat.pow_le_pow_left (by decide) k
    have := log_lt this (by omega)
    simp only [PyData.showable, decide_eq_true_eq]
    omega
  · show (Str.ofString (toString i)).length ≤ k + 1
    rw [ofStr_len]
    exact int_text_length_le10 hk h
theorem strOk_lt {a : Str} (h : PyData.strOk a = true) : ∀ c ∈ a.cps.toList, c < 16 ^ 8 := by
  intro c hc
  have h' : a.cps.all (fun c => decide (c < 0x110000)) = true := h
  rw [Array.all_eq_true_iff_forall_mem] at h'
  have := h' c (Array.mem_toList_iff.mp hc)
  simp only [decide_eq_true_eq] at this
  exact Nat.lt_trans this (by decide)
theorem Rz.str {a : Str} (n : Nat) (h : a.length ≤ n) (ok : PyData.strOk a = true) : Rz 0 (10 * n + 2) (.str a) := by
  refine ⟨_, rfl, rfl, ok, Nat.le_refl _, ?_⟩
  show (reprText a).length ≤ _
  have := PySem.StrLaws.reprText_len a (strOk_lt ok)
  omega
theorem pys_of {dep len : Nat} : ∀ {l : List D}, (∀ d ∈ l, Rz dep len d) → ∃ ps, pys l = some ps ∧ PyData.showableAll ps = true ∧ PyData.canLayAll0 ps = true ∧ PyData.depthAll ps ≤ dep ∧ ps.length = l.length ∧ ∀ t ∈ PyData.shownAll ps, t.length ≤ len
  | [], _ => ⟨[], rfl, rfl, rfl, Nat.zero_le _, rfl, fun _ h => nomatch h⟩
  | d :: r, h => by
    obtain ⟨p, e, a1, a2, a3, a4⟩ := (h d List.mem_cons_self).ex
    obtain ⟨ps, e2, b1, b2, b3, b4, b5⟩ := pys_of (l := r) fun x hx => h x (List.mem_cons_of_mem _ hx)
    refine ⟨p :: ps, by simp only [pys, e, e2], by simp only [PyData.showableAll, a1, b1, Bool.and_self], by simp only [PyData.canLayAll0, a2, b2, Bool.and_self], ?_, by simp [b4], fun t ht => ?_⟩
    · simp only [PyData.depthAll]
      omega
    · simp only [PyData.shownAll] at ht
      rcases List.mem_cons.mp ht with rfl | ht
      · exact a4
      · exact b5 t ht
theorem shownAll_len : ∀ ps : List PyData, (PyData.shownAll ps).length = ps.length
  | [] => rfl
  | p :: r => by simp [PyData.shownAll, shownAll_len r]
theorem sumlen_le {c : Nat} : ∀ l : List Str, (∀ x ∈ l, x.length ≤ c) → (l.map (·.length)).sum ≤ l.length * c
  | [], _ => by simp
  | x :: r, h => by
    have h1 := h x List.mem_cons_self
    have h2 := sumlen_le r fun y hy => h y (List.mem_cons_of_mem _ hy)
    simp only [List.map_cons, List.sum_cons, List.length_cons, Nat.succ_mul]
    omega
theorem Rz.tup {dep len : Nat} {l : List D} (h : ∀ d ∈ l, Rz dep len d) : Rz (dep + 1) (l.length * (len + 2) + 3) (.tup l) := by
  obtain ⟨ps, e, h1, h2, h3, h4, h5⟩ := pys_of h
  refine ⟨.tuple ps, by simp only [py, e, Option.map], by simpa [PyData.showable] using h1, by simpa [PyData.canLay0] using h2, by simp only [PyData.depth]; omega, ?_⟩
  have q : PyData.shown (.tuple ps) = tupleText (PyData.shownAll ps) := by simp [PyData.shown]
  rw [q]
  have t := tupleText_len_le (PyData.shownAll ps)
  have s := sumlen_le _ h5
  rw [shownAll_len, h4] at t s
  rw [Nat.mul_add]
  omega
theorem Rz.lst {dep len : Nat} {l : List D} (h : ∀ d ∈ l, Rz dep len d) : Rz (dep + 1) (l.length * (len + 2) + 3) (.lst l) := by
  obtain ⟨ps, e, h1, h2, h3, h4, h5⟩ := pys_of h
  refine ⟨.list ps, by simp only [py, e, Option.map], by simpa [PyData.showable] using h1, by simpa [PyData.canLay0] using h2, by simp only [PyData.depth]; omega, ?_⟩
  have q : PyData.shown (.list ps) = listText (PyData.shownAll ps) := by simp [PyData.shown]
  rw [q]
  have t := listText_len_le (PyData.shownAll ps)
  have s := sumlen_le _ h5
  rw [shownAll_len, h4] at t s
  rw [Nat.mul_add]
  omega
def rep (d : D) : Str := match py d with
  | some p => p.shown
  | none => Str.empty
def pd (d : D) : PyData := (py d).getD .none
theorem pyS_of {S : Store} {d : D} {p : PyData} (h : py d = some p) : pyS S d = some p := by
  cases d with
  | ob n => cases h
  | _ => exact h
theorem Rz.repr {dep len : Nat} {d : D} (h : Rz dep len d) (hd : dep ≤ 60) (hl : len ≤ 16777216) (S : Store) : reprD [d] S = .ok (.str (rep d)) S := by
  obtain ⟨p, e, a1, a2, a3, a4⟩ := h.ex
  have : rep d = p.shown := by unfold rep; rw [e]
  rw [this]
  exact repr_ok (pyS_of e) ⟨a1, PyData.hasDict_of_canLay p a2, by omega, by rw [sizeLine_eq]; omega⟩
theorem Rz.shaped {dep len : Nat} {d : D} (h : Rz dep len d) (hd : dep ≤ 60) : shaped (pd d) = true := by
  obtain ⟨p, e, a1, a2, a3, a4⟩ := h.ex
  have : pd d = p := by unfold pd; rw [e]; rfl
  rw [this]
  unfold SeqAt.shaped
  simp [a2]
  omega
theorem Rz.py {dep len : Nat} {d : D} (h : Rz dep len d) : py d = some (pd d) := by
  obtain ⟨p, e, _⟩ := h.ex
  unfold pd
  rw [e]
  rfl
def eqb (x y : D) : Bool := PyData.eqv (pd x) (pd y)
theorem eqD_of {S : Store} {x y : D} (hx : py x = some (pd x)) (hy : py y = some (pd y)) (sx : shaped (pd x) = true) (sy : shaped (pd y) = true) : eqD x y S = .ok (.bl (eqb x y)) S := by
  unfold eqD
  split
  · rename_i a b
    have : eqb (.str a) (.str b) = decide (a = b) := by show (a == b) = _; rw [beq_dec]
    rw [this]
  · simp only [pyS_of hx, pyS_of hy, sx, sy, and_self, if_true]
    rfl
theorem neD_of {S : Store} {x y : D} (hx : py x = some (pd x)) (hy : py y = some (pd y)) (sx : shaped (pd x) = true) (sy : shaped (pd y) = true) : neD x y S = .ok (.bl (!eqb x y)) S := by
  unfold neD
  split
  · rename_i a b
    have : eqb (.str a) (.str b) = decide (a = b) := by show (a == b) = _; rw [beq_dec]
    rw [this]
  · simp only [pyS_of hx, pyS_of hy, sx, sy, and_self, if_true]
    rfl
section
variable {QD : D → Store → Prop} {S : Store} {x y d : D} {a b a' b' : Nat} {p q : Bool}
theorem Ok.repr (h : Rz a b d) (hd : a ≤ 60) (hl : b ≤ 16777216) (k : QD (.str (rep d)) S) : Ok (reprD [d] S) QD := Ok.of (h.repr hd hl S) k
theorem Ok.eq_d (hx : Rz a b x) (hy : Rz a' b' y) (h1 : a ≤ 60) (h2 : a' ≤ 60) (k : QD (.bl (eqb x y)) S) : Ok (eqD x y S) QD := Ok.of (eqD_of hx.py hy.py (hx.shaped h1) (hy.shaped h2)) k
theorem Ok.ne_d (hx : Rz a b x) (hy : Rz a' b' y) (h1 : a ≤ 60) (h2 : a' ≤ 60) (k : QD (.bl (!eqb x y)) S) : Ok (neD x y S) QD := Ok.of (neD_of hx.py hy.py (hx.shaped h1) (hy.shaped h2)) k
theorem Ok.eq_bb (k : QD (.bl (p == q)) S) : Ok (eqD (.bl p) (.bl q) S) QD := k
theorem Ok.ne_bb (k : QD (.bl (!(p == q))) S) : Ok (neD (.bl p) (.bl q) S) QD := k
end
mutual
theorem eqv_refl : ∀ p : PyData, p.canLay0 = true → PyData.eqv p p = true
  | .none, _ => rfl
  | .bool b, _ => by simp [PyData.eqv]
  | .int b, _ => by simp [PyData.eqv]
  | .str b, _ => by simp [PyData.eqv]
  | .list l, h => by
    have := eqvAll_refl l (by simpa [PyData.canLay0] using h)
    simpa [PyData.eqv] using this
  | .tuple l, h => by
    have := eqvAll_refl l (by simpa [PyData.canLay0] using h)
    simpa [PyData.eqv] using this
  | .dict _, h => by simp [PyData.canLay0] at h
theorem eqvAll_refl : ∀ l : List PyData, PyData.canLayAll0 l = true → PyData.eqvAll l l = true
  | [], _ => rfl
  | p :: r, h => by
    have h' : p.canLay0 = true ∧ PyData.canLayAll0 r = true := by simpa [PyData.canLayAll0] using h
    simp [PyData.eqvAll, eqv_refl p h'.1, eqvAll_refl r h'.2]
end
theorem Rz.refl {dep len : Nat} {d : D} (h : Rz dep len d) : eqb d d = true := by
  obtain ⟨p, e, a1, a2, a3, a4⟩ := h.ex
  have : pd d = p := by unfold pd; rw [e]; rfl
  unfold eqb
  rw [this]
  exact eqv_refl p a2
end DL
namespace DL
open PySem PySem.Spec PyProof.Rows L2
theorem leX_trans (a b c : D) (h : leX a b = true) (h2 : leX b c = true) : leX a c = true := by
  unfold leX PySem.W.dataLt at *
  simp only [Bool.not_eq_true'] at *
  cases e : PyProof.Rows.lexLt itemOrd (PySem.W.keyToks (pyd c)) (PySem.W.keyToks (pyd a)) with
  | false => rfl
  | true => rcases lex_negTrans _ (PySem.W.keyToks (pyd b)) _ e with q | q <;> simp_all
theorem leX_total (a b : D) : (leX a b || leX b a) = true := by
  unfold leX PySem.W.dataLt
  cases e : PyProof.Rows.lexLt itemOrd (PySem.W.keyToks (pyd b)) (PySem.W.keyToks (pyd a)) with
  | false => rfl
  | true =>
    cases e2 : PyProof.Rows.lexLt itemOrd (PySem.W.keyToks (pyd a)) (PySem.W.keyToks (pyd b)) with
    | false => rfl
    | true =>
      have := lex_trans _ _ _ e e2
      rw [lex_irrefl] at this
      cases this
namespace Pl
def intsD (l : List Int) : D := .tup (l.map .int)
def prD (x : Pw × Int) : D := .tup [intsD x.1, .int x.2]
def d (p : Pol) : D := .ptu (p.map prD)
theorem pys_ints : ∀ l : List Int, pys (l.map .int) = some (l.map .int)
  | [] => rfl
  | i :: l => by simp [pys, py, pys_ints l]
theorem py_prD (x : Pw × Int) : py (prD x) = some (.tuple [.tuple (x.1.map .int), .int x.2]) := by
  simp [prD, intsD, py, pys, pys_ints]
theorem pyd_prD (x : Pw × Int) : pyd (prD x) = .tuple [.tuple (x.1.map .int), .int x.2] := by unfold pyd; rw [py_prD]; rfl
theorem eqv_ints : ∀ a b : List Int, PyData.eqvAll (a.map .int) (b.map .int) = decide (a = b)
  | [], [] => by simp [PyData.eqvAll]
  | [], _ :: _ => by simp [PyData.eqvAll]
  | _ :: _, [] => by simp [PyData.eqvAll]
  | x :: a, y :: b => by
    simp only [List.map_cons, PyData.eqvAll, PyData.eqv, eqv_ints a b, beq_dec, List.cons.injEq, Bool.decide_and]
theorem eqv_tints (a b : List Int) : PyData.eqv (.tuple (a.map .int)) (.tuple (b.map .int)) = decide (a = b) := by rw [PyData.eqv]; exact eqv_ints a b
theorem alike_pr (x y : Pw × Int) : PySem.W.alike (pyd (prD x)) (pyd (prD y)) = true := by
  rw [pyd_prD, pyd_prD]
  simp [PySem.W.alike, PySem.W.alikeAll, PySem.W.alike_ints]
theorem lt_tints (a b : List Int) : PySem.W.dataLt (.tuple (a.map .int)) (.tuple (b.map .int)) = decide (a < b) := by
  rw [PySem.W.dataLt_tuple]
  exact PySem.W.dataLt_ints a b
def leP (x y : Pw × Int) : Bool := leX (prD x) (prD y)
theorem leP_ne {x y : Pw × Int} (h : x.1 ≠ y.1) : leP x y = decide (x.1 < y.1) := by
  unfold leP leX
  rw [pyd_prD, pyd_prD, PySem.W.dataLt_pair (by simp [PySem.W.alike, PySem.W.alike_ints]) rfl, eqv_tints, if_neg (by simp [Ne.symm h]), lt_tints]
  rcases ltw_tri x.1 y.1 with a | a | a
  · have : ¬ y.1 < x.1 := List.lt_asymm a
    simp [this, a]
  · exact absurd a h
  · have : ¬ x.1 < y.1 := List.lt_asymm a
    simp [this, a]
def nzf (l : Pol) : Pol := l.filter fun x => decide (x.2 ≠ 0)
/-- made(factors) -/
def mk (l : Pol) : Pol := (nzf l).mergeSort leP
theorem mk_perm (l : Pol) : (mk l).Perm (nzf l) := List.mergeSort_perm _ _
theorem lin_mk (l : Pol) (f : Pw → Int) : lin (mk l) f = lin l f := (lin_perm (mk_perm l) f).trans (lin_filter f l)
theorem nm_mk (l : Pol) : nm (mk l) ≤ nm l := by rw [nm_perm (mk_perm l)]; exact nm_filter _ l
theorem mem_mk {l : Pol} {x : Pw × Int} (h : x ∈ mk l) : x ∈ l ∧ x.2 ≠ 0 := by
  have := (mk_perm l).mem_iff.mp h
  rw [nzf, List.mem_filter] at this
  exact ⟨this.1, by simpa using this.2⟩
theorem mk_len (l : Pol) : (mk l).length ≤ l.length := by
  rw [mk, List.length_mergeSort]
  exact List.length_filter_le _ _
theorem nd_filter {l : Pol} (h : Nd l) (t : Pw × Int → Bool) : Nd (l.filter t) := List.Nodup.sublist (List.Sublist.map _ List.filter_sublist) h
theorem asc_mk {l : Pol} (h : Nd l) : Asc (mk l) := by
  have n1 : Nd (mk l) := by
    unfold Nd
    exact ((mk_perm l).map (·.1)).nodup_iff.mpr (nd_filter h _)
  have s : (mk l).Pairwise fun a b => leP a b = true := List.pairwise_mergeSort (le := leP) (fun a b c => leX_trans (prD a) (prD b) (prD c)) (fun a b => leX_total (prD a) (prD b)) _
  unfold Nd List.Nodup at n1
  rw [List.pairwise_map] at n1
  unfold Asc
  refine (s.and n1).imp fun {a b} ⟨h1, h2⟩ => ?_
  rw [leP_ne h2] at h1
  exact of_decide_eq_true h1
theorem cn_mk {m : Nat} {l : Pol} (h : Nd l) (hl : ∀ x ∈ l, x.1.length = m) (hp : ∀ x ∈ l, ∀ i ∈ x.1, 0 ≤ i) : Cn m (mk l) :=
  ⟨asc_mk h, fun x hx => hl x (mem_mk hx).1, fun x hx => hp x (mem_mk hx).1, fun x hx => (mem_mk hx).2⟩
theorem Asc.nd {p : Pol} (h : Asc p) : Nd p := by
  unfold Nd List.Nodup
  rw [List.pairwise_map]
  exact h.imp fun {a b} h => (ltw_ne h).symm
theorem Cn.nd {m : Nat} {p : Pol} (h : Cn m p) : Nd p := h.asc.nd
/-! ### the operations -/
def addAll (l q : Pol) : Pol := q.foldl (fun acc x => add1 acc x.1 x.2) l
def plus (p q : Pol) : Pol := mk (addAll p q)
def negP (q : Pol) : Pol := q.map fun x => (x.1, 0 - x.2)
def minus (p q : Pol) : Pol := plus p (negP q)
def sumK (a b : Pw) : Pw := List.zipWith (· + ·) a b
def scale (k : Pw) (c : Int) (q : Pol) : Pol := q.map fun y => (sumK k y.1, c * y.2)
def mulAll (l p q : Pol) : Pol := p.foldl (fun acc x => addAll acc (scale x.1 x.2 q)) l
def times (p q : Pol) : Pol := mk (mulAll [] p q)
def const (m : Nat) (c : Int) : Pol := if c = 0 then [] else [(List.replicate m 0, c)]
def unit (m j : Nat) : Pw := (List.range m).map fun i => if i = j then 1 else 0
def unk (m j : Nat) : Pol := [(unit m j, 1)]
theorem addAll_nd : ∀ {q l : Pol}, Nd l → Nd (addAll l q)
  | [], _, h => h
  | x :: q, l, h => addAll_nd (q := q) (nd_put h)
theorem lin_addAll (f : Pw → Int) : ∀ {q l : Pol}, Nd l → lin (addAll l q) f = lin l f + lin q f
  | [], l, h => by simp [addAll, lin]
  | (k, c) :: q, l, h => by
    show lin (addAll (add1 l k c) q) f = _
    rw [lin_addAll f (show Nd (add1 l k c) from nd_put h), lin_add1 h]
    simp only [lin]
    omega
theorem nm_addAll : ∀ {q l : Pol}, Nd l → nm (addAll l q) ≤ nm l + nm q
  | [], l, h => by simp [addAll, nm]
  | (k, c) :: q, l, h => by
    show nm (addAll (add1 l k c) q) ≤ _
    have h1 := nm_addAll (q := q) (nd_put (k := k) (c := (get l k).getD 0 + c) h)
    have h2 := nm_add1 (k := k) (c := c) h
    simp only [nm]
    unfold add1 at h2 ⊢
    omega
theorem mem_addAll {x : Pw × Int} : ∀ {q l : Pol}, x ∈ addAll l q → (∃ y ∈ l, x.1 = y.1) ∨ ∃ y ∈ q, x.1 = y.1
  | [], l, h => .inl ⟨x, h, rfl⟩
  | (k, c) :: q, l, h => by
    rcases mem_addAll (q := q) (l := add1 l k c) h with ⟨y, hy, e⟩ | ⟨y, hy, e⟩
    · rcases mem_put hy with hy | rfl
      · exact .inl ⟨y, hy, e⟩
      · exact .inr ⟨(k, c), List.mem_cons_self .., e⟩
    · exact .inr ⟨y, List.mem_cons_of_mem _ hy, e⟩
theorem addAll_len : ∀ {q l : Pol}, (addAll l q).length ≤ l.length + q.length
  | [], l => by simp [addAll]
  | x :: q, l => by
    have h1 := addAll_len (q := q) (l := add1 l x.1 x.2)
    have h2 : (add1 l x.1 x.2).length ≤ l.length + 1 := put_len
    show (addAll (add1 l x.1 x.2) q).length ≤ _
    simp only [List.length_cons]
    omega
theorem lin_plus {p q : Pol} (h : Nd p) (f : Pw → Int) : lin (plus p q) f = lin p f + lin q f := by rw [plus, lin_mk, lin_addAll f h]
theorem lin_negP (f : Pw → Int) : ∀ q : Pol, lin (negP q) f = - lin q f
  | [] => rfl
  | (k, c) :: q => by
    have := lin_negP f q
    simp only [negP, List.map_cons, lin, Int.zero_sub, Int.neg_mul] at this ⊢
    omega
theorem lin_minus {p q : Pol} (h : Nd p) (f : Pw → Int) : lin (minus p q) f = lin p f - lin q f := by rw [minus, lin_plus h, lin_negP]; omega
theorem lin_scale (k : Pw) (c : Int) (f : Pw → Int) : ∀ q : Pol, lin (scale k c q) f = c * lin q (fun b => f (sumK k b))
  | [] => by simp [scale, lin]
  | (j, e) :: q => by
    have := lin_scale k c f q
    simp only [scale, List.map_cons, lin] at this ⊢
    rw [this, Int.mul_add, Int.mul_assoc]
theorem lin_mulAll (f : Pw → Int) (q : Pol) : ∀ {p l : Pol}, Nd l → lin (mulAll l p q) f = lin l f + lin p (fun a => lin q (fun b => f (sumK a b)))
  | [], l, h => by simp [mulAll, lin]
  | (k, c) :: p, l, h => by
    show lin (mulAll (addAll l (scale k c q)) p q) f = _
    rw [lin_mulAll f q (addAll_nd h), lin_addAll f h, lin_scale]
    simp only [lin]
    omega
theorem mulAll_nd {q : Pol} : ∀ {p l : Pol}, Nd l → Nd (mulAll l p q)
  | [], _, h => h
  | x :: p, l, h => mulAll_nd (p := p) (addAll_nd h)
theorem lin_times (p q : Pol) (f : Pw → Int) : lin (times p q) f = lin p (fun a => lin q (fun b => f (sumK a b))) := by
  rw [times, lin_mk, lin_mulAll f q (by simp [Nd])]
  simp [lin]
theorem nm_scale (k : Pw) (c : Int) : ∀ q : Pol, nm (scale k c q) = c.natAbs * nm q
  | [] => by simp [scale, nm]
  | (j, e) :: q => by
    have := nm_scale k c q
    simp only [scale, List.map_cons, nm] at this ⊢
    rw [this, Int.natAbs_mul, Nat.mul_add]
theorem nm_mulAll (q : Pol) : ∀ {p l : Pol}, Nd l → nm (mulAll l p q) ≤ nm l + nm p * nm q
  | [], l, h => by simp [mulAll, nm]
  | (k, c) :: p, l, h => by
    have h1 := nm_mulAll q (p := p) (addAll_nd (q := scale k c q) h)
    have h2 := nm_addAll (q := scale k c q) h
    rw [nm_scale] at h2
    show nm (mulAll (addAll l (scale k c q)) p q) ≤ _
    simp only [nm]
    rw [Nat.add_mul]
    omega
theorem mulAll_len (q : Pol) : ∀ {p l : Pol}, (mulAll l p q).length ≤ l.length + p.length * q.length
  | [], l => by simp [mulAll]
  | x :: p, l => by
    have h1 := mulAll_len q (p := p) (l := addAll l (scale x.1 x.2 q))
    have h2 := addAll_len (q := scale x.1 x.2 q) (l := l)
    have h3 : (scale x.1 x.2 q).length = q.length := by simp [scale]
    show (mulAll (addAll l (scale x.1 x.2 q)) p q).length ≤ _
    rw [List.length_cons, Nat.succ_mul]
    omega
theorem mem_mulAll {q : Pol} {x : Pw × Int} : ∀ {p l : Pol}, x ∈ mulAll l p q → (∃ y ∈ l, x.1 = y.1) ∨ ∃ y ∈ p, ∃ z ∈ q, x.1 = sumK y.1 z.1
  | [], l, h => .inl ⟨x, h, rfl⟩
  | y :: p, l, h => by
    rcases mem_mulAll (p := p) (l := addAll l (scale y.1 y.2 q)) h with ⟨z, hz, e⟩ | ⟨z, hz, w, hw, e⟩
    · rcases mem_addAll hz with ⟨w, hw, e2⟩ | ⟨w, hw, e2⟩
      · exact .inl ⟨w, hw, e.trans e2⟩
      · obtain ⟨v, hv, rfl⟩ := List.mem_map.mp hw
        exact .inr ⟨y, List.mem_cons_self .., v, hv, e.trans e2⟩
    · exact .inr ⟨z, List.mem_cons_of_mem _ hz, w, hw, e⟩
theorem sumK_len {a b : Pw} {m : Nat} (ha : a.length = m) (hb : b.length = m) : (sumK a b).length = m := by unfold sumK; rw [List.length_zipWith, ha, hb, Nat.min_self]
theorem sumK_pos : ∀ {a b : Pw}, (∀ i ∈ a, 0 ≤ i) → (∀ i ∈ b, 0 ≤ i) → ∀ i ∈ sumK a b, 0 ≤ i
  | [], b, _, _, i, h => by simp [sumK] at h
  | _ :: _, [], _, _, i, h => by simp [sumK] at h
  | x :: a, y :: b, ha, hb, i, h => by
    simp only [sumK, List.zipWith_cons_cons, List.mem_cons] at h
    rcases h with rfl | h
    · have h1 := ha x (List.mem_cons_self ..)
      have h2 := hb y (List.mem_cons_self ..)
      omega
    · exact sumK_pos (fun i h => ha i (List.mem_cons_of_mem _ h)) (fun i h => hb i (List.mem_cons_of_mem _ h)) i h
theorem sumK_comm (a b : Pw) : sumK a b = sumK b a := by
  unfold sumK
  rw [List.zipWith_comm]
  congr 1
  funext x y
  exact Int.add_comm _ _
theorem sumK_assoc : ∀ a b c : Pw, sumK (sumK a b) c = sumK a (sumK b c)
  | [], b, c => by simp [sumK]
  | _ :: _, [], c => by simp [sumK]
  | _ :: _, _ :: _, [] => by simp [sumK]
  | x :: a, y :: b, z :: c => by
    have := sumK_assoc a b c
    simp only [sumK, List.zipWith_cons_cons, List.cons.injEq] at this ⊢
    exact ⟨Int.add_assoc _ _ _, this⟩
theorem sumK_zero : ∀ {a : Pw} {m : Nat}, a.length = m → sumK a (List.replicate m 0) = a
  | [], m, h => by simp [sumK]
  | x :: a, 0, h => by simp at h
  | x :: a, m + 1, h => by
    have := sumK_zero (a := a) (m := m) (by simpa using h)
    simp only [sumK, List.replicate_succ, List.zipWith_cons_cons, Int.add_zero] at this ⊢
    rw [this]
theorem cn_plus {m : Nat} {p q : Pol} (hp : Cn m p) (hq : Cn m q) : Cn m (plus p q) := by
  refine cn_mk (addAll_nd hp.nd) (fun x hx => ?_) fun x hx => ?_
  · rcases mem_addAll hx with ⟨y, hy, e⟩ | ⟨y, hy, e⟩
    · rw [e]; exact hp.len y hy
    · rw [e]; exact hq.len y hy
  · rcases mem_addAll hx with ⟨y, hy, e⟩ | ⟨y, hy, e⟩
    · rw [e]; exact hp.pos y hy
    · rw [e]; exact hq.pos y hy
theorem cn_minus {m : Nat} {p q : Pol} (hp : Cn m p) (hq : Cn m q) : Cn m (minus p q) := by
  refine cn_mk (addAll_nd hp.nd) (fun x hx => ?_) fun x hx => ?_
  · rcases mem_addAll hx with ⟨y, hy, e⟩ | ⟨y, hy, e⟩
    · rw [e]; exact hp.len y hy
    · obtain ⟨z, hz, rfl⟩ := List.mem_map.mp hy
      rw [e]; exact hq.len z hz
  · rcases mem_addAll hx with ⟨y, hy, e⟩ | ⟨y, hy, e⟩
    · rw [e]; exact hp.pos y hy
    · obtain ⟨z, hz, rfl⟩ := List.mem_map.mp hy
      rw [e]; exact hq.pos z hz
theorem cn_times {m : Nat} {p q : Pol} (hp : Cn m p) (hq : Cn m q) : Cn m (times p q) := by
  refine cn_mk (mulAll_nd (by simp [Nd])) (fun x hx => ?_) fun x hx => ?_
  · rcases mem_mulAll hx with ⟨y, hy, e⟩ | ⟨y, hy, z, hz, e⟩
    · cases hy
    · rw [e]; exact sumK_len (hp.len y hy) (hq.len z hz)
  · rcases mem_mulAll hx with ⟨y, hy, e⟩ | ⟨y, hy, z, hz, e⟩
    · cases hy
    · rw [e]; exact sumK_pos (hp.pos y hy) (hq.pos z hz)
theorem cn_nil {m : Nat} : Cn m [] := ⟨List.Pairwise.nil, fun _ h => (nomatch h), fun _ h => (nomatch h), fun _ h => (nomatch h)⟩
theorem cn_one {m : Nat} {k : Pw} {c : Int} (hk : k.length = m) (hp : ∀ i ∈ k, 0 ≤ i) (hc : c ≠ 0) : Cn m [(k, c)] :=
  ⟨List.pairwise_singleton _ _, fun x hx => by rw [List.mem_singleton.mp hx]; exact hk, fun x hx => by rw [List.mem_singleton.mp hx]; exact hp, fun x hx => by rw [List.mem_singleton.mp hx]; exact hc⟩
theorem cn_const (m : Nat) (c : Int) : Cn m (const m c) := by
  unfold const
  split
  · exact cn_nil
  · rename_i h
    exact cn_one (by simp) (fun i hi => by rw [(List.mem_replicate.mp hi).2]; exact Int.le_refl _) h
theorem cn_unk (m j : Nat) : Cn m (unk m j) := cn_one (by simp [unit]) (fun i hi => by
  obtain ⟨z, _, rfl⟩ := List.mem_map.mp hi
  split <;> decide) (by decide)
theorem lin_const (m : Nat) (c : Int) (f : Pw → Int) : lin (const m c) f = c * f (List.replicate m 0) := by
  unfold const
  split
  · rename_i h; subst h; simp [lin]
  · simp [lin]
theorem lin_unk (m j : Nat) (f : Pw → Int) : lin (unk m j) f = f (unit m j) := by simp [unk, lin]
theorem nm_const (m : Nat) (c : Int) : nm (const m c) = c.natAbs := by
  unfold const
  split
  · rename_i h; subst h; rfl
  · simp [nm]
theorem nm_negP : ∀ q : Pol, nm (negP q) = nm q
  | [] => rfl
  | (k, c) :: q => by
    have := nm_negP q
    simp only [negP, List.map_cons, nm] at this ⊢
    omega
theorem nm_plus {p q : Pol} (h : Nd p) : nm (plus p q) ≤ nm p + nm q := Nat.le_trans (nm_mk _) (nm_addAll h)
theorem nm_minus {p q : Pol} (h : Nd p) : nm (minus p q) ≤ nm p + nm q := by rw [← nm_negP q]; exact nm_plus h
theorem nm_times (p q : Pol) : nm (times p q) ≤ nm p * nm q := by
  have := nm_mulAll q (p := p) (l := []) (by simp [Nd])
  simp only [nm, Nat.zero_add] at this
  exact Nat.le_trans (nm_mk _) this
theorem len_plus (p q : Pol) : (plus p q).length ≤ p.length + q.length := Nat.le_trans (mk_len _) addAll_len
theorem len_minus (p q : Pol) : (minus p q).length ≤ p.length + q.length := by
  have := len_plus p (negP q)
  rw [show (negP q).length = q.length from List.length_map _] at this
  exact this
theorem len_times (p q : Pol) : (times p q).length ≤ p.length * q.length := by
  have := mulAll_len q (p := p) (l := [])
  simp only [List.length_nil, Nat.zero_add] at this
  exact Nat.le_trans (mk_len _) this
/-- the greatest power -/
def Dg (b : Int) (p : Pol) : Prop := ∀ x ∈ p, ∀ i ∈ x.1, i ≤ b
theorem sumK_le : ∀ {a b : Pw} {x y : Int}, (∀ i ∈ a, i ≤ x) → (∀ i ∈ b, i ≤ y) → ∀ i ∈ sumK a b, i ≤ x + y
  | [], b, _, _, _, _, i, h => by simp [sumK] at h
  | _ :: _, [], _, _, _, _, i, h => by simp [sumK] at h
  | u :: a, v :: b, x, y, ha, hb, i, h => by
    simp only [sumK, List.zipWith_cons_cons, List.mem_cons] at h
    rcases h with rfl | h
    · have h1 := ha u (List.mem_cons_self ..)
      have h2 := hb v (List.mem_cons_self ..)
      omega
    · exact sumK_le (fun i h => ha i (List.mem_cons_of_mem _ h)) (fun i h => hb i (List.mem_cons_of_mem _ h)) i h
theorem Dg.mono {b c : Int} {p : Pol} (h : Dg b p) (hc : b ≤ c) : Dg c p := fun x hx i hi => Int.le_trans (h x hx i hi) hc
theorem dg_plus {b : Int} {p q : Pol} (hp : Dg b p) (hq : Dg b q) : Dg b (plus p q) := fun x hx => by
  rcases mem_addAll (mem_mk hx).1 with ⟨y, hy, e⟩ | ⟨y, hy, e⟩
  · rw [e]; exact hp y hy
  · rw [e]; exact hq y hy
theorem dg_minus {b : Int} {p q : Pol} (hp : Dg b p) (hq : Dg b q) : Dg b (minus p q) := fun x hx => by
  rcases mem_addAll (mem_mk hx).1 with ⟨y, hy, e⟩ | ⟨y, hy, e⟩
  · rw [e]; exact hp y hy
  · obtain ⟨z, hz, rfl⟩ := List.mem_map.mp hy
    rw [e]; exact hq z hz
theorem dg_times {b c : Int} {p q : Pol} (hp : Dg b p) (hq : Dg c q) : Dg (b + c) (times p q) := fun x hx => by
  rcases mem_mulAll (mem_mk hx).1 with ⟨y, hy, e⟩ | ⟨y, hy, z, hz, e⟩
  · cases hy
  · rw [e]; exact sumK_le (hp y hy) (hq z hz)
theorem dg_const (m : Nat) (c : Int) : Dg 0 (const m c) := by
  unfold const
  split
  · exact fun _ h => nomatch h
  · intro x hx i hi
    rw [List.mem_singleton.mp hx] at hi
    rw [(List.mem_replicate.mp hi).2]
    exact Int.le_refl _
theorem dg_unk (m j : Nat) : Dg 1 (unk m j) := by
  intro x hx i hi
  rw [List.mem_singleton.mp hx] at hi
  obtain ⟨z, _, rfl⟩ := List.mem_map.mp hi
  split <;> decide
end Pl
end DL
namespace DL
open PySem PySem.Spec PyProof.Rows L2
open SeqAt (shaped)
/-! ### formulas as data -/
def Fm.p : Fm → PyData
  | .num n => .int n
  | .lett s => .str s
  | .neg f => .tuple [.str "neg", f.p]
  | .bin op f g => .tuple [.str op, f.p, g.p]
theorem Fm.py_p : ∀ f : Fm, py f.d = some f.p
  | .num n => rfl
  | .lett s => rfl
  | .neg f => by simp only [Fm.d, py, pys, f.py_p, Fm.p, Option.map]
  | .bin op f g => by simp only [Fm.d, py, pys, f.py_p, g.py_p, Fm.p, Option.map]
theorem Fm.pd_p (f : Fm) : pd f.d = f.p := by unfold pd; rw [f.py_p]; rfl
theorem LETS_ok : ∀ s ∈ LETS, s.length ≤ 1 ∧ PyData.strOk s = true := by decide +kernel
theorem OPS_ok : ∀ s ∈ OPS, s.length ≤ 1 ∧ PyData.strOk s = true := by decide +kernel
theorem pow4_pos (k : Nat) : 1 ≤ 4 ^ k := Nat.pow_pos (by decide)
theorem Fm.rz : ∀ f : Fm, f.ok → Rz f.ops (30 * 4 ^ f.ops) f.d
  | .num n, h => (Rz.int10 2 (by decide) (by show Int.natAbs (n : Int) < 100; rw [Int.natAbs_natCast]; exact h) (by decide)).mono (Nat.zero_le _) (by show 3 ≤ 30 * 4 ^ 0; decide)
  | .lett s, h => (Rz.str 1 (LETS_ok s h).1 (LETS_ok s h).2).mono (Nat.zero_le _) (by show 12 ≤ 30 * 4 ^ 0; decide)
  | .neg f, h => by
    have r := f.rz h
    have e : 4 ^ (f.ops + 1) = 4 * 4 ^ f.ops := by rw [Nat.pow_succ, Nat.mul_comm]
    have p1 := pow4_pos f.ops
    have p : Rz f.ops (30 * 4 ^ f.ops + 2) (.str "neg") := (Rz.str 3 (by decide +kernel) (by decide +kernel)).mono (Nat.zero_le _) (by omega)
    refine (Rz.tup (l := [.str "neg", f.d]) (dep := f.ops) (len := 30 * 4 ^ f.ops + 2) ?_).mono (Nat.le_refl _) ?_
    · intro d hd
      simp only [List.mem_cons, List.not_mem_nil, or_false] at hd
      rcases hd with rfl | rfl
      · exact p
      · exact r.mono (Nat.le_refl _) (by omega)
    · simp only [List.length_cons, List.length_nil, Fm.ops]
      omega
  | .bin op f g, h => by
    have r := f.rz h.2.1
    have q := g.rz h.2.2
    have m1 : 4 ^ f.ops ≤ 4 ^ (f.ops + g.ops) := Nat.pow_le_pow_right (by decide) (by omega)
    have m2 : 4 ^ g.ops ≤ 4 ^ (f.ops + g.ops) := Nat.pow_le_pow_right (by decide) (by omega)
    have e : 4 ^ (f.ops + g.ops + 1) = 4 * 4 ^ (f.ops + g.ops) := by rw [Nat.pow_succ, Nat.mul_comm]
    have p1 := pow4_pos (f.ops + g.ops)
    have p : Rz 0 12 (.str op) := Rz.str 1 (OPS_ok op h.1).1 (OPS_ok op h.1).2
    refine (Rz.tup (l := [.str op, f.d, g.d]) (dep := f.ops + g.ops) (len := 30 * 4 ^ (f.ops + g.ops)) ?_).mono (Nat.le_refl _) ?_
    · intro d hd
      simp only [List.mem_cons, List.not_mem_nil, or_false] at hd
      rcases hd with rfl | rfl | rfl
      · exact p.mono (Nat.zero_le _) (by omega)
      · exact r.mono (by omega) (by omega)
      · exact q.mono (by omega) (by omega)
    · simp only [List.length_cons, List.length_nil, Fm.ops]
      omega
theorem Fm.eqv : ∀ f g : Fm, PyData.eqv f.p g.p = decide (f = g)
  | .num n, .num m => by simp only [Fm.p, PyData.eqv, beq_dec, Fm.num.injEq]; exact decide_eq_decide.mpr (by omega)
  | .num n, .lett s => by simp [Fm.p, PyData.eqv]
  | .num n, .neg f => by simp [Fm.p, PyData.eqv]
  | .num n, .bin op f g => by simp [Fm.p, PyData.eqv]
  | .lett s, .num m => by simp [Fm.p, PyData.eqv]
  | .lett s, .lett t => by simp only [Fm.p, PyData.eqv, beq_dec, Fm.lett.injEq]
  | .lett s, .neg f => by simp [Fm.p, PyData.eqv]
  | .lett s, .bin op f g => by simp [Fm.p, PyData.eqv]
  | .neg f, .num m => by simp [Fm.p, PyData.eqv]
  | .neg f, .lett s => by simp [Fm.p, PyData.eqv]
  | .neg f, .neg g => by simp [Fm.p, PyData.eqv, PyData.eqvAll, Fm.eqv f g]
  | .neg f, .bin op g k => by simp [Fm.p, PyData.eqv, PyData.eqvAll]
  | .bin op f g, .num m => by simp [Fm.p, PyData.eqv]
  | .bin op f g, .lett s => by simp [Fm.p, PyData.eqv]
  | .bin op f g, .neg k => by simp [Fm.p, PyData.eqv, PyData.eqvAll]
  | .bin op f g, .bin op' f' g' => by
    simp only [Fm.p, PyData.eqv, PyData.eqvAll, Fm.eqv f f', Fm.eqv g g', beq_dec, Bool.and_true, Fm.bin.injEq, Bool.decide_and]
theorem Fm.eqb (f g : Fm) : DL.eqb f.d g.d = decide (f = g) := by unfold DL.eqb; rw [f.pd_p, g.pd_p, Fm.eqv]
end DL
namespace DL
open PySem PySem.Spec PyProof.Rows L2
section
variable {α β : Type} {S S1 : Store} {fr : Frame} {QD : D → Store → Prop} {QB : Bool → Store → Prop} {QF : Frame → Store → Prop} {QS : Fl → Frame → Store → Prop} {i j : Int} {n m : Nat} {d x y : D} {l : List D} {p q : Bool}
theorem Ok.is_bb (h : QD (.bl (decide (p = q))) S) : Ok (isND (.bl p) (.bl q) S) QD := h
theorem Ok.nis_bb (h : QD (.bl (!decide (p = q))) S) : Ok (notND (.bl p) (.bl q) S) QD := h
theorem Ok.nis_nn (h : QD (.bl false) S) : Ok (notND .non .non S) QD := h
theorem Ok.is_in (h : QD (.bl false) S) : Ok (isND (.int i) .non S) QD := h
theorem Ok.is_tn (h : QD (.bl false) S) : Ok (isND (.tup l) .non S) QD := h
theorem Ok.is_bn (h : QD (.bl false) S) : Ok (isND (.bl p) .non S) QD := h
theorem Ok.is_sn {a : Str} (h : QD (.bl false) S) : Ok (isND (.str a) .non S) QD := h
theorem Ok.nis_in (h : QD (.bl true) S) : Ok (notND (.int i) .non S) QD := h
theorem Ok.nis_tn (h : QD (.bl true) S) : Ok (notND (.tup l) .non S) QD := h
theorem Ok.nis_bn (h : QD (.bl true) S) : Ok (notND (.bl p) .non S) QD := h
theorem Ok.nis_sn {a : Str} (h : QD (.bl true) S) : Ok (notND (.str a) .non S) QD := h
theorem Ok.pow_ii (h0 : 0 ≤ j) (h1 : j ≤ 1000000) (h2 : i.natAbs < 2 ^ 64) (h : QD (.int (i ^ j.toNat)) S) : Ok (powD (.int i) (.int j) S) QD := Ok.of (pow_int h0 h1 h2) h
theorem Ok.mul_ii {a b : Nat} (ha : i.natAbs < 2 ^ a) (hb : j.natAbs < 2 ^ b) (h0 : 0 < a) (h1 : 0 < b) (hs : a + b ≤ 1000000) (h : QD (.int (i * j)) S) : Ok (mulD (.int i) (.int j) S) QD := Ok.of (mul_int' (wide_mul ha hb h0 h1 hs)) h
section
variable {T : String} {a : Str}
theorem Ok.isi_non (e : kitB "NoneType" T = some p) (h : QD (.bl p) S) : Ok (isiD T .non S) QD := Ok.of (isi_known rfl e) h
theorem Ok.isi_bl (e : kitB "bool" T = some p) (h : QD (.bl p) S) : Ok (isiD T (.bl q) S) QD := Ok.of (isi_known rfl e) h
theorem Ok.isi_int (e : kitB "int" T = some p) (h : QD (.bl p) S) : Ok (isiD T (.int i) S) QD := Ok.of (isi_known rfl e) h
theorem Ok.isi_str (e : kitB "str" T = some p) (h : QD (.bl p) S) : Ok (isiD T (.str a) S) QD := Ok.of (isi_known rfl e) h
theorem Ok.isi_tup (e : kitB "tuple" T = some p) (h : QD (.bl p) S) : Ok (isiD T (.tup l) S) QD := Ok.of (isi_known rfl e) h
theorem Ok.isi_ctu (e : kitB "tuple" T = some p) (h : QD (.bl p) S) : Ok (isiD T (.ctu l) S) QD := Ok.of (isi_known rfl e) h
theorem Ok.isi_lst (e : kitB "list" T = some p) (h : QD (.bl p) S) : Ok (isiD T (.lst l) S) QD := Ok.of (isi_known rfl e) h
theorem Ok.isi_emp (e : kitB "dict" T = some p) (h : QD (.bl p) S) : Ok (isiD T .emp S) QD := Ok.of (isi_known rfl e) h
theorem Ok.in_st {ks : List Str} (ha : PyData.strOk a = true) (hk : ∀ a ∈ ks, PyData.strOk a = true) (h : QD (.bl (decide (a ∈ ks))) S) : Ok (inD (.str a) (.tup (ks.map .str)) S) QD := Ok.of (in_tupS ks ha hk) h
theorem Ok.nin_st {ks : List Str} (ha : PyData.strOk a = true) (hk : ∀ a ∈ ks, PyData.strOk a = true) (h : QD (.bl (!decide (a ∈ ks))) S) : Ok (notInD (.str a) (.tup (ks.map .str)) S) QD := Ok.of (nin_tupS ks ha hk) h
theorem in_ctuS {a : Str} (l : List Str) (h : PyData.strOk a = true) (hl : ∀ a ∈ l, PyData.strOk a = true) : inD (.str a) (.ctu (l.map .str)) S = .ok (.bl (decide (a ∈ l))) S := by
  have e : pyS S (.ctu (l.map .str)) = some (.tuple (l.map .str)) := by show py _ = _; unfold py; rw [pys_strs]; rfl
  have e2 : pyS S (.str a) = some (.str a) := rfl
  unfold inD
  simp only [e, e2, sh_tup (lay_strs l hl) (Nat.le_trans (dep_strs l) (by decide)), sh_str h, and_self, if_true, itemsOf, any_strs]
theorem nin_ctuS {a : Str} (l : List Str) (h : PyData.strOk a = true) (hl : ∀ a ∈ l, PyData.strOk a = true) : notInD (.str a) (.ctu (l.map .str)) S = .ok (.bl (!decide (a ∈ l))) S := by
  have e : pyS S (.ctu (l.map .str)) = some (.tuple (l.map .str)) := by show py _ = _; unfold py; rw [pys_strs]; rfl
  have e2 : pyS S (.str a) = some (.str a) := rfl
  unfold notInD
  simp only [e, e2, sh_tup (lay_strs l hl) (Nat.le_trans (dep_strs l) (by decide)), sh_str h, and_self, if_true, itemsOf, any_strs]
theorem Ok.in_sc {ks : List Str} (ha : PyData.strOk a = true) (hk : ∀ a ∈ ks, PyData.strOk a = true) (h : QD (.bl (decide (a ∈ ks))) S) : Ok (inD (.str a) (.ctu (ks.map .str)) S) QD := Ok.of (in_ctuS ks ha hk) h
theorem Ok.nin_sc {ks : List Str} (ha : PyData.strOk a = true) (hk : ∀ a ∈ ks, PyData.strOk a = true) (h : QD (.bl (!decide (a ∈ ks))) S) : Ok (notInD (.str a) (.ctu (ks.map .str)) S) QD := Ok.of (nin_ctuS ks ha hk) h
end
/-! ### dicts -/
theorem Ok.dget {k : Key} {t : List (Key × D)} (e : S[n]? = some (some (.dk t))) (hk : keyD y = some k) (hv : valD t k = some d) (h : QD d S) : Ok (dgtD (.ob n) y S) QD := by
  refine Ok.of (v := d) (S1 := S) ?_ h
  unfold dgtD
  simp only [e, hk, Option.bind, hv]
theorem Ok.dset {k : Key} {t : List (Key × D)} {Q : Unit → Store → Prop} (e : S[n]? = some (some (.dk t))) (hk : keyD y = some k) (hl : t.length < 100000) (h : Q () (S.set n (some (.dk (putKD t k d))))) : Ok (dstD (.ob n) y d S) Q := by
  refine Ok.of (v := ()) (S1 := S.set n (some (.dk (putKD t k d)))) ?_ h
  unfold dstD
  simp only [e, hk, if_pos hl]
theorem Ok.pnil {Q : List (D × D) → Store → Prop} (h : Q [] S) : Ok (pairsF [] fr S) Q := h
theorem Ok.pcons {Q : List (D × D) → Store → Prop} {f g : Frame → M D} {fs : List ((Frame → M D) × (Frame → M D))} (h : Ok (f fr S) fun x S1 => Ok (g fr S1) fun y S2 => Ok (pairsF fs fr S2) fun ps S3 => Q ((x, y) :: ps) S3) : Ok (pairsF ((f, g) :: fs) fr S) Q :=
  Ok.bnd (h.imp fun _ _ q => Ok.bnd (q.imp fun _ _ q => Ok.bnd (q.imp fun _ _ q => q)))
theorem Ok.disp {fs : List ((Frame → M D) × (Frame → M D))} (h : Ok (pairsF fs fr S) fun ps S1 => ∃ t, keyedD ps = some t ∧ QD (.ob S1.length) (S1 ++ [some (.dk (mergeD [] t))])) : Ok (dispF fs fr S) QD := by
  unfold dispF
  refine Ok.bnd (h.imp fun ps S1 q => ?_)
  obtain ⟨t, e, q⟩ := q
  rw [e]
  exact q
theorem Ok.dctK (h : QD (.ob S.length) (S ++ [some (.dk [])])) : Ok (DL.dctK fr S) QD := h
theorem Ok.tgDic {fo fi : Frame → M D} (h : Ok (fo fr S) fun o S1 => Ok (fi fr S1) fun i S2 => Ok (dstD o i d S2) fun _ S3 => QF fr S3) : Ok (DL.tgDic fo fi d fr S) QF := by
  unfold DL.tgDic
  exact Ok.bnd (Ok.nox (h.imp fun o S1 q => Ok.bnd (Ok.nox (q.imp fun i S2 q => Ok.bnd (q.imp fun _ _ q => q)))))
/-! ### instances -/
theorem Ok.fld {cs : List Str} {f : Str} {fo : Frame → M D} (h : Ok (fo fr S) fun o S1 => Ok (fldD cs f o S1) QD) : Ok (fldF cs f fo fr S) QD := Ok.bnd h
theorem Ok.fldD {cs : List Str} {f c : Str} {fs : List (Str × D)} (e : S[n]? = some (some (.ins c fs))) (hc : cs.contains c = true) (hf : fs.lookup f = some d) (h : QD d S) : Ok (DL.fldD cs f (.ob n) S) QD := by
  refine Ok.of (v := d) (S1 := S) ?_ h
  unfold DL.fldD insS
  simp only [e, hc, if_true, hf]
theorem Ok.tgAtt {cs : List Str} {f : Str} {fo : Frame → M D} (h : Ok (fo fr S) fun o S1 => Ok (setA cs f o d S1) fun _ S2 => QF fr S2) : Ok (DL.tgAtt cs f fo d fr S) QF := by
  unfold DL.tgAtt
  exact Ok.bnd (Ok.nox (h.imp fun o S1 q => Ok.bnd (q.imp fun _ _ q => q)))
theorem Ok.setA {cs : List Str} {f c : Str} {fs : List (Str × D)} {Q : Unit → Store → Prop} (e : S[n]? = some (some (.ins c fs))) (hc : cs.contains c = true) (hl : fs.length < 1000) (h : Q () (S.set n (some (.ins c (putD f d fs))))) : Ok (DL.setA cs f (.ob n) d S) Q := by
  refine Ok.of (v := ()) (S1 := S.set n (some (.ins c (putD f d fs)))) ?_ h
  unfold DL.setA insS
  simp only [e, hc, hl, and_self, if_true]
theorem Ok.mtd {nm c : Str} {tab : Tab} {fo : Frame → M D} {fs : List (Frame → M D)} (h : Ok (fo fr S) fun o S1 => ∃ n c fl F, o = .ob n ∧ S1[n]? = some (some (.ins c fl)) ∧ fl.lookup nm = none ∧ tab.lookup c = some F ∧ Ok (seqA fs fr S1) fun xs S2 => Ok (F (o :: xs) S2) QD) : Ok (mtdF nm tab fo fs fr S) QD := by
  unfold mtdF
  refine Ok.bnd (Ok.nox (h.imp fun o S1 q => ?_))
  obtain ⟨n, c, fl, F, rfl, e, hn, ht, q⟩ := q
  unfold insS
  simp only [e, hn, ht, if_true]
  exact Ok.bnd (Ok.imp q fun xs S2 q => Ok.nox q)
theorem Ok.prp {tab : Tab} {fo : Frame → M D} (h : Ok (fo fr S) fun o S1 => ∃ n c fl F, o = .ob n ∧ S1[n]? = some (some (.ins c fl)) ∧ tab.lookup c = some F ∧ Ok (F [o] S1) QD) : Ok (prpF tab fo fr S) QD := by
  unfold prpF
  refine Ok.bnd (Ok.nox (h.imp fun o S1 q => ?_))
  obtain ⟨n, c, fl, F, rfl, e, ht, q⟩ := q
  unfold insS
  simp only [e, ht]
  exact Ok.nox q
theorem Ok.mak {c : Str} {F : List D → M D} {fs : List (Frame → M D)} (h : Ok (seqA fs fr S) fun xs S1 => Ok (F (.ob S1.length :: xs) (S1 ++ [some (.ins c [])])) fun d S2 => d = .non ∧ QD (.ob S1.length) S2) : Ok (makF c F fs fr S) QD := by
  unfold makF
  refine Ok.bnd (h.imp fun xs S1 q => ?_)
  obtain ⟨d, S2, e, rfl, q⟩ := q.ex
  rw [e]
  exact q
theorem Ok.makO {c : Str} (h : QD (.ob S.length) (S ++ [some (.ins c [])])) : Ok (DL.makO c fr S) QD := h
theorem OkS.lcons {g : D → Frame → M Frame} {body : SM} (h : Ok (g x fr S) fun fr1 S1 => OkS (body fr1 S1) (Lp (fun fr S => OkS (loopL g body l fr S) QS) QS)) : OkS (loopL g body (x :: l) fr S) QS := by
  obtain ⟨fr1, S1, e1, q1⟩ := h.ex
  obtain ⟨fl, fr2, S2, e2, q2⟩ := q1.ex
  unfold loopL
  rw [e1]
  dsimp only
  rw [e2]
  cases fl <;> exact q2
theorem OkS.lnil {g : D → Frame → M Frame} {body : SM} (h : QS .nx fr S) : OkS (loopL g body [] fr S) QS := h
theorem Ok.icons {QL : List D → Store → Prop} {g : D → Frame → M Frame} {t : Frame → M Bool} {elt : Frame → M D} (h : Ok (g x fr S) fun fr1 S1 => Ok (t fr1 S1) fun b S2 => Br b (Ok (elt fr1 S2) fun y S3 => Ok (itL g t elt fr l S3) fun ys S4 => QL (y :: ys) S4) (Ok (itL g t elt fr l S2) QL)) : Ok (itL g t elt fr (x :: l) S) QL := by
  unfold itL
  refine Ok.bnd (h.imp fun fr1 S1 q => Ok.bnd (q.imp fun b S2 q => ?_))
  cases b with
  | true =>
    rw [if_pos rfl]
    exact Ok.bnd (Ok.imp q fun y S3 q => Ok.bnd (q.imp fun _ _ q => q))
  | false =>
    rw [if_neg Bool.false_ne_true]
    exact q
theorem Ok.inil {QL : List D → Store → Prop} {g : D → Frame → M Frame} {t : Frame → M Bool} {elt : Frame → M D} (h : QL [] S) : Ok (itL g t elt fr [] S) QL := h
theorem Ok.sli_tail (h : QD (.tup l) S) : Ok (sliD (.tup (x :: l)) (some 1) none S) QD := by
  show QD (.tup (DL.cutD (x :: l) (some 1) none)) S
  rw [cut_tail]
  exact h
theorem Ok.six {a b : Str} {k : Nat} {r : List Nat} (e : Builtin.Str.occurrences a b 0 a.length 1 = k :: r) (h : QD (.int (k : Nat)) S) : Ok (sixD (.str a) [.str b] S) QD := by
  refine Ok.of (v := .int (k : Nat)) (S1 := S) ?_ h
  unfold sixD
  simp only [e]
theorem valD_cons {κ : Type} [DecidableEq κ] {k k' : κ} {t : List (κ × D)} : valD ((k', d) :: t) k = if k' = k then some d else valD t k := by
  unfold valD
  by_cases e : k' = k
  · simp [List.find?_cons, e]
  · simp [List.find?_cons, e]
end
/-! ### a store that only grows -/
def Ext (S S' : Store) : Prop := ∃ T, S' = S ++ T
theorem Ext.refl {S : Store} : Ext S S := ⟨[], by simp⟩
theorem Ext.app {S : Store} {o : Option O} : Ext S (S ++ [o]) := ⟨_, rfl⟩
theorem Ext.trans {S S1 S2 : Store} (a : Ext S S1) (b : Ext S1 S2) : Ext S S2 := by
  obtain ⟨T, rfl⟩ := a
  obtain ⟨U, rfl⟩ := b
  exact ⟨T ++ U, by rw [List.append_assoc]⟩
theorem Ext.get {S S' : Store} (a : Ext S S') {i : Nat} {o : Option O} (h : S[i]? = some o) : S'[i]? = some o := by
  obtain ⟨T, rfl⟩ := a
  rw [List.getElem?_append_left (List.getElem?_eq_some_iff.mp h).1, h]
theorem Ext.len {S S' : Store} (a : Ext S S') : S.length ≤ S'.length := by
  obtain ⟨T, rfl⟩ := a
  simp
theorem Ext.keep {S S' : Store} {n m : Nat} (a : Ext S S') : Keep n m S S' := by
  obtain ⟨T, rfl⟩ := a
  exact ⟨by simp, fun i h _ _ => List.getElem?_append_left h⟩
theorem Dk.ext {S S' : Store} {n m b : Nat} (d : Dk n m b S) (a : Ext S S') : Dk n m b S' := by
  obtain ⟨T, rfl⟩ := a
  exact d.keep (List.getElem?_append_left d.lt.1) (List.getElem?_append_left d.lt.2)
/-- an object made behind S is written -/
theorem Ext.set {S S' : Store} {n : Nat} {o : Option O} (a : Ext S S') (h : S.length ≤ n) : Ext S (S'.set n o) := by
  obtain ⟨T, rfl⟩ := a
  exact ⟨T.set (n - S.length) o, by rw [List.set_append_right _ _ h]⟩
theorem intsL_ints : ∀ ns : List Int, intsL (ns.map .int) = some ns
  | [] => rfl
  | x :: r => by simp [intsL, intsL_ints r]
theorem Ok.sorted {S : Store} {ns : List Int} {QD : D → Store → Prop} (h : QD (.lst ((sortI ns).map .int)) S) : Ok (sortedD [.lst (ns.map .int)] S) QD := by
  have e := intsL_ints ns
  refine Ok.of (v := .lst ((sortI ns).map .int)) (S1 := S) ?_ h
  unfold sortedD oneL
  simp only [lstL_lst, Option.bind, e]
local macro_rules | `(tactic| and_intros) => `(tactic| repeat (first | with_reducible refine Ok.sli_tail ?_ | ((with_reducible refine Ok.var ?_); refine ⟨_, rfl, ?_⟩) | ((with_reducible refine Fr.go ?_); intro fr_ e_; simp only [List.set_cons_zero, List.set_cons_succ, setAll, wipeF] at e_; subst e_) | with_reducible refine Ok.bin ?_ | with_reducible refine Ok.calp ?_ | with_reducible refine Ok.cal ?_ | with_reducible refine Ok.cst ?_ | with_reducible refine Ok.acons ?_ | with_reducible refine Ok.anil ?_ | with_reducible refine Ok.un ?_ | with_reducible refine Ok.tb ?_ | with_reducible refine Ok.tsb ?_ | with_reducible refine OkS.seq ?_ | with_reducible refine OkS.asg ?_ | with_reducible refine Then.nx ?_ | with_reducible refine Then.rt ?_ | with_reducible refine OkS.ifS ?_ | with_reducible refine Ok.notF ?_ | with_reducible refine Ok.andF ?_ | with_reducible refine Ok.orF ?_ | with_reducible refine Ok.ite ?_ | with_reducible refine Br.t ?_ | with_reducible refine Br.f ?_ | with_reducible refine Br.not ?_ | ((with_reducible refine OkS.aug ?_); refine ⟨_, rfl, ?_⟩) | ((with_reducible refine Ok.ix_t ?_); refine ⟨_, rfl, ?_⟩) | ((with_reducible refine Ok.ix_l ?_); refine ⟨_, rfl, ?_⟩) | ((with_reducible refine Ok.tgT ?_ ?_); exact rfl) | with_reducible refine Ok.tup ?_ | with_reducible refine Ok.lst ?_ | with_reducible refine Ok.lstO ?_ | with_reducible refine Ok.tst ?_ | with_reducible refine Ok.tru_bl ?_ | with_reducible refine Ok.tru_non ?_ | with_reducible refine Ok.tru_tup ?_ | with_reducible refine Ok.tru_lst ?_ | with_reducible refine Ok.tru_int ?_ | with_reducible refine Ok.boolF ?_ | with_reducible refine Ok.andV ?_ | with_reducible refine Ok.orV ?_ | with_reducible refine Ok.notV ?_ | with_reducible refine Ok.yes ?_ | with_reducible refine Ok.prtN ?_ | with_reducible refine Ok.prtS ?_ | with_reducible refine Ok.sli ?_ | with_reducible refine Ok.chF ?_ | with_reducible refine Ok.exi ?_ | with_reducible refine Ok.exb ?_ | with_reducible refine Ok.add_ii ?_ | with_reducible refine Ok.sub_ii ?_ | with_reducible refine Ok.neg_i ?_ | with_reducible refine Ok.lt_ii ?_ | with_reducible refine Ok.le_ii ?_ | with_reducible refine Ok.gt_ii ?_ | with_reducible refine Ok.ge_ii ?_ | with_reducible refine Ok.eq_ii ?_ | with_reducible refine Ok.ne_ii ?_ | with_reducible refine Ok.eq_ss ?_ | with_reducible refine Ok.ne_ss ?_ | with_reducible refine Ok.in_ss ?_ | with_reducible refine Ok.nin_ss ?_ | with_reducible refine Ok.is_nn ?_ | with_reducible refine Ok.int_i ?_ | with_reducible refine Ok.int_b ?_ | with_reducible refine Ok.str_s ?_ | with_reducible refine Ok.max_ii ?_ | with_reducible refine Ok.min_ii ?_ | with_reducible refine Ok.len_t ?_ | with_reducible refine Ok.len_l ?_ | with_reducible refine Ok.tup_t ?_ | with_reducible refine Ok.tup_l ?_ | with_reducible refine Ok.lst_t ?_ | with_reducible refine Ok.lst_l ?_ | with_reducible refine Ok.sli_t ?_ | with_reducible refine Ok.sli_l ?_ | with_reducible refine OkS.ret ?_ | with_reducible refine OkS.retN ?_ | with_reducible refine OkS.expr ?_ | with_reducible refine OkS.nx ?_ | with_reducible refine OkS.bk ?_ | with_reducible refine OkS.ct ?_ | with_reducible refine Then.bk ?_ | with_reducible refine Then.ct ?_ | with_reducible refine Rt.rt ?_ | with_reducible refine Rt.nx ?_ | with_reducible refine Lp.nx ?_ | with_reducible refine Lp.ct ?_ | with_reducible refine Lp.bk ?_ | with_reducible refine Lp.rt ?_ | with_reducible refine OkS.asgG ?_ | with_reducible refine OkS.par ?_ | with_reducible refine Ok.iadd_ii ?_ | with_reducible refine Ok.isub_ii ?_ | with_reducible refine Ok.tgN ?_ | with_reducible refine Ok.tgA0 ?_ | with_reducible refine Ok.tgA ?_ | with_reducible refine Ok.tgSub ?_ | with_reducible refine Ok.rngF ?_ | with_reducible refine Ok.cmpD ?_ | with_reducible refine Ok.cmpO ?_ | with_reducible refine Ok.ret ?_ | with_reducible refine Ok.ok ?_ | with_reducible refine Ok.newO ?_ | with_reducible refine Ok.bnd ?_ | with_reducible refine OkS.fore ?_ | with_reducible refine Ok.cmpe ?_ | with_reducible refine Ok.itT ?_ | with_reducible refine ItQ.tup ?_ | with_reducible refine ItQ.lst ?_ | with_reducible refine ItQ.ctu ?_ | with_reducible refine SrcQ.con ?_ | with_reducible refine SrcQ.tup ?_ | with_reducible refine SrcQ.lst ?_ | with_reducible refine SrcQ.ctu ?_ | ((with_reducible refine Ok.mod_ii ?_ ?_); (first | decide | (simp; done) | (simp; omega))) | ((with_reducible refine Ok.add_tt ?_ ?_); (first | decide | (simp; done) | (simp; omega))) | ((with_reducible refine Ok.add_ll ?_ ?_); (first | decide | (simp; done) | (simp; omega))) | ((with_reducible refine Ok.add_ss ?_ ?_); (first | decide | (simp; done) | (simp; omega))) | ((with_reducible refine Ok.rng1 ?_ ?_); (first | decide | omega | (simp; omega))) | ((with_reducible refine Br.dt ?_ ?_); (first | assumption | exact rfl | omega | decide +kernel)) | ((with_reducible refine Br.df ?_ ?_); (first | assumption | omega | decide +kernel)) | ((with_reducible refine Br.tt ?_ ?_); (first | assumption | decide +kernel)) | ((with_reducible refine Br.ff ?_ ?_); (first | assumption | decide +kernel)) | with_reducible refine Ok.is_in ?_ | with_reducible refine Ok.is_tn ?_ | with_reducible refine Ok.is_bn ?_ | with_reducible refine Ok.is_sn ?_ | with_reducible refine Ok.nis_in ?_ | with_reducible refine Ok.nis_tn ?_ | with_reducible refine Ok.nis_bn ?_ | with_reducible refine Ok.nis_sn ?_ | with_reducible refine OkS.lcons ?_ | with_reducible refine OkS.lnil ?_ | with_reducible refine Ok.icons ?_ | with_reducible refine Ok.inil ?_ | with_reducible refine Ok.is_bb ?_ | with_reducible refine Ok.nis_bb ?_ | with_reducible refine Ok.nis_nn ?_ | with_reducible refine Ok.pcons ?_ | with_reducible refine Ok.pnil ?_ | with_reducible refine Ok.dctK ?_ | with_reducible refine Ok.tgDic ?_ | with_reducible refine Ok.fld ?_ | with_reducible refine Ok.tgAtt ?_ | with_reducible refine Ok.makO ?_ | ((with_reducible refine Ok.isi_tup (p := true) ?_ ?_); decide +kernel) | ((with_reducible refine Ok.isi_tup (p := false) ?_ ?_); decide +kernel) | ((with_reducible refine Ok.isi_int (p := true) ?_ ?_); decide +kernel) | ((with_reducible refine Ok.isi_int (p := false) ?_ ?_); decide +kernel) | ((with_reducible refine Ok.isi_str (p := true) ?_ ?_); decide +kernel) | ((with_reducible refine Ok.isi_str (p := false) ?_ ?_); decide +kernel) | ((with_reducible refine Ok.isi_lst (p := true) ?_ ?_); decide +kernel) | ((with_reducible refine Ok.isi_lst (p := false) ?_ ?_); decide +kernel) | ((with_reducible refine Ok.isi_bl (p := true) ?_ ?_); decide +kernel) | ((with_reducible refine Ok.isi_bl (p := false) ?_ ?_); decide +kernel) | ((with_reducible refine Ok.isi_non (p := true) ?_ ?_); decide +kernel) | ((with_reducible refine Ok.isi_non (p := false) ?_ ?_); decide +kernel) | ((with_reducible refine Ok.isi_ctu (p := true) ?_ ?_); decide +kernel) | ((with_reducible refine Ok.isi_ctu (p := false) ?_ ?_); decide +kernel) | ((with_reducible refine Ok.isi_emp (p := true) ?_ ?_); decide +kernel) | ((with_reducible refine Ok.isi_emp (p := false) ?_ ?_); decide +kernel) | (with_reducible refine Ok.disp ?_)))
/-! ### what laws draw (the first deck) -/
section
variable {S : Store} {QD : D → Store → Prop} {n m q : Nat}
noncomputable def numberB (dr on : List D → M D) : SM := seqS (parF [1, 2] [binF subD (calF (fun xs => dr (xs ++ [])) [varF 0, cstF (.int 19)]) (cstF (.int 9)), binF subD (calF (fun xs => dr (xs ++ [])) [varF 0, cstF (.int 2001)]) (cstF (.int 1000))]) (retF (calF (fun xs => on (xs ++ [])) [varF 0, lstF [cstF (.int 0), cstF (.int 1), unF negD (cstF (.int 1)), cstF (.int 2), varF 1, varF 1, varF 2, binF addD (binF powD (cstF (.int 10)) (cstF (.int 20))) (varF 2), binF subD (varF 2) (binF powD (cstF (.int 10)) (cstF (.int 39)))]]))
theorem Ok.number (dk : Dk n m q S) (hb : 3 ≤ q) (h : ∀ i S', Int.natAbs i < 10 ^ 40 → Dk n m (q - 3) S' → Keep n m S S' → QD (.int i) S') : Ok (defF 3 (numberB (defF 5 drawB) (defF 2 (oneB (defF 5 drawB)))) [.ob n] S) QD := by
  with_reducible refine Ok.def_ ?_
  simp only [frame0, List.map_cons, List.map_nil, List.length_cons, List.length_nil, Nat.reduceAdd, Nat.reduceSub, Nat.zero_add, List.reduceReplicate, List.cons_append, List.nil_append]
  unfold numberB
  and_intros
  refine Ok.draw dk (by omega) (by decide) (by decide) ?_
  intro a S1 a0 a1 dk1 k1
  and_intros
  refine Ok.draw dk1 (by omega) (by decide) (by decide) ?_
  intro b S2 b0 b1 dk2 k2
  and_intros
  with_reducible refine Ok.pow_ii ?_ ?_ ?_ ?_
  · decide
  · decide
  · decide
  and_intros
  with_reducible refine Ok.pow_ii ?_ ?_ ?_ ?_
  · decide
  · decide
  · decide
  and_intros
  refine Ok.one dk2 (by omega) (.inl rfl) (by simp) (by simp) ?_
  intro x S3 hx dk3 k3
  and_intros
  have e1 : (10 : Int) ^ Int.toNat 20 = 100000000000000000000 := by decide
  have e2 : (10 : Int) ^ Int.toNat 39 = 1000000000000000000000000000000000000000 := by decide
  rw [e1, e2] at hx
  have fin : ∀ i : Int, x = .int i → i.natAbs < 10 ^ 40 → QD x S3 := fun i e hi => by
    subst e
    exact h i S3 hi (dk3.mono (by omega)) ((k1.trans k2).trans k3)
  simp only [List.mem_cons, List.not_mem_nil, or_false] at hx
  rcases hx with rfl | rfl | rfl | rfl | rfl | rfl | rfl | rfl | rfl <;> exact fin _ rfl (by omega)
noncomputable def numbersB (nu : List D → M D) : SM := retF (calF tupleD [cmpD [2] (rngF rng1 [varF 1]) (tgName 2) (yesF) (calF (fun xs => nu (xs ++ [])) [varF 0])])
theorem Ok.numbers {many : Nat} (dk : Dk n m q S) (hb : 3 * many ≤ q) (hm : many ≤ 1000) (h : ∀ (l : List Int) S', l.length = many → (∀ i ∈ l, Int.natAbs i < 10 ^ 40) → Dk n m (q - 3 * many) S' → Keep n m S S' → QD (.tup (l.map .int)) S') :
    Ok (defF 3 (numbersB (defF 3 (numberB (defF 5 drawB) (defF 2 (oneB (defF 5 drawB)))))) [.ob n, .int (many : Nat)] S) QD := by
  with_reducible refine Ok.def_ ?_
  simp only [frame0, List.map_cons, List.map_nil, List.length_cons, List.length_nil, Nat.reduceAdd, Nat.reduceSub, Nat.zero_add, List.reduceReplicate, List.cons_append, List.nil_append]
  unfold numbersB
  and_intros
  refine ⟨by rw [rngL_len]; simp; omega, ?_⟩
  and_intros
  refine Ok.itl (I := fun i ys S' => ∃ l : List Int, ys = l.map .int ∧ l.length = i ∧ (∀ i ∈ l, Int.natAbs i < 10 ^ 40) ∧ Dk n m (q - 3 * i) S' ∧ Keep n m S S') ⟨[], rfl, rfl, (fun _ h => nomatch h), dk, Keep.refl⟩ ?_ ?_
  · rintro i x ys S1 hx ⟨l, rfl, hl, hs, dk1, k1⟩
    have hi := (rngL_get hx).2
    have hi : i < many := by simpa using hi
    and_intros
    refine Ok.number dk1 (by omega) fun z S2 hz dk2 k2 => ?_
    exact ⟨l ++ [z], by simp, by simp [hl], fun y hy => by
      rcases List.mem_append.mp hy with hy | hy
      · exact hs y hy
      · simp at hy; subst hy; exact hz, dk2.mono (by omega), k1.trans k2⟩
  · rintro ys S1 ⟨l, rfl, hl, hs, dk1, k1⟩
    rw [rngL_len] at hl dk1
    and_intros
    exact h l S1 (by simpa using hl) hs (dk1.mono (by simp)) k1
end
end DL
namespace DL
open PySem PySem.Spec PyProof.Rows L2
/-! ### rows of whole numbers: places and slices -/
section
variable {α : Type} {g : α → D} {S : Store} {QD : D → Store → Prop} {l m : List α} {x y : α} {a : Str}
theorem cut_d1 : DL.cutD (l.map g) (some 1) none = (l.drop 1).map g := by
  unfold DL.cutD
  rw [show HT.sIx (l.map g).length 0 (some 1) = min 1 (l.map g).length from HT.sIx_nat _ _ 1, HT.sIx_none, ← List.map_drop]
  cases l with
  | nil => simp
  | cons x r => simp [List.take_of_length_le]
theorem cut_d2 : DL.cutD (l.map g) (some 2) none = (l.drop 2).map g := by
  unfold DL.cutD
  rw [show HT.sIx (l.map g).length 0 (some 2) = min 2 (l.map g).length from HT.sIx_nat _ _ 2, HT.sIx_none]
  by_cases h : 2 ≤ l.length
  · rw [Nat.min_eq_left (by simpa using h), ← List.map_drop, List.take_of_length_le (by simp)]
  · rw [Nat.min_eq_right (by simp; omega), List.drop_length, List.take_nil, List.drop_eq_nil_of_le (by omega)]; rfl
theorem cut_t1 : DL.cutD (l.map g) none (some 1) = (l.take 1).map g := by
  unfold DL.cutD
  rw [show HT.sIx (l.map g).length (l.map g).length (some 1) = min 1 (l.map g).length from HT.sIx_nat _ _ 1, HT.sIx_none]
  cases l with
  | nil => simp
  | cons x r => simp
theorem sIx_m1 (n d : Nat) : HT.sIx n d (some (-1)) = n - 1 := by
  unfold HT.sIx
  simp only [show ((-1 : Int) < 0) = True from by simp, if_true]
  omega
theorem cut_dl : DL.cutD (l.map g) none (some (-1)) = l.dropLast.map g := by
  unfold DL.cutD
  rw [sIx_m1, HT.sIx_none, List.drop_zero, Nat.sub_zero, List.length_map, ← List.map_take, List.dropLast_eq_take]
theorem cut_l1 : DL.cutD (l.map g) (some (-1)) none = (l.drop (l.length - 1)).map g := by
  unfold DL.cutD
  rw [sIx_m1, HT.sIx_none, List.length_map, ← List.map_drop, List.take_of_length_le (by simp)]
theorem Ok.sl_d1 (h : QD (.tup ((l.drop 1).map g)) S) : Ok (sliD (.tup (l.map g)) (some 1) none S) QD := by show QD (.tup (DL.cutD _ _ _)) S; rw [cut_d1]; exact h
theorem Ok.sl_d2 (h : QD (.tup ((l.drop 2).map g)) S) : Ok (sliD (.tup (l.map g)) (some 2) none S) QD := by show QD (.tup (DL.cutD _ _ _)) S; rw [cut_d2]; exact h
theorem Ok.sl_t1 (h : QD (.tup ((l.take 1).map g)) S) : Ok (sliD (.tup (l.map g)) none (some 1) S) QD := by show QD (.tup (DL.cutD _ _ _)) S; rw [cut_t1]; exact h
theorem Ok.sl_dl (h : QD (.tup (l.dropLast.map g)) S) : Ok (sliD (.tup (l.map g)) none (some (-1)) S) QD := by show QD (.tup (DL.cutD _ _ _)) S; rw [cut_dl]; exact h
theorem Ok.sl_l1 (h : QD (.tup ((l.drop (l.length - 1)).map g)) S) : Ok (sliD (.tup (l.map g)) (some (-1)) none S) QD := by show QD (.tup (DL.cutD _ _ _)) S; rw [cut_l1]; exact h
theorem Ok.sll_d1 (h : QD (.lst ((l.drop 1).map g)) S) : Ok (sliD (.lst (l.map g)) (some 1) none S) QD := by show QD (.lst (DL.cutD _ _ _)) S; rw [cut_d1]; exact h
theorem Ok.sll_d2 (h : QD (.lst ((l.drop 2).map g)) S) : Ok (sliD (.lst (l.map g)) (some 2) none S) QD := by show QD (.lst (DL.cutD _ _ _)) S; rw [cut_d2]; exact h
theorem Ok.sll_t1 (h : QD (.lst ((l.take 1).map g)) S) : Ok (sliD (.lst (l.map g)) none (some 1) S) QD := by show QD (.lst (DL.cutD _ _ _)) S; rw [cut_t1]; exact h
theorem Ok.sll_dl (h : QD (.lst (l.dropLast.map g)) S) : Ok (sliD (.lst (l.map g)) none (some (-1)) S) QD := by show QD (.lst (DL.cutD _ _ _)) S; rw [cut_dl]; exact h
theorem Ok.sll_l1 (h : QD (.lst ((l.drop (l.length - 1)).map g)) S) : Ok (sliD (.lst (l.map g)) (some (-1)) none S) QD := by show QD (.lst (DL.cutD _ _ _)) S; rw [cut_l1]; exact h
/-- the first k -/
theorem cut_tk {k : Nat} : DL.cutD (l.map g) none (some (k : Int)) = (l.take k).map g := by
  unfold DL.cutD
  rw [HT.sIx_nat, HT.sIx_none, List.drop_zero, Nat.sub_zero, List.length_map, ← List.map_take]
  congr 1
  by_cases h : k ≤ l.length
  · rw [Nat.min_eq_left h]
  · rw [Nat.min_eq_right (by omega), List.take_length, List.take_of_length_le (by omega)]
theorem Ok.sl_tk {k : Nat} {i : Int} (e : i = k) (h : QD (.tup ((l.take k).map g)) S) : Ok (sliD (.tup (l.map g)) none (some i) S) QD := by subst e; show QD (.tup (DL.cutD _ _ _)) S; rw [cut_tk]; exact h
theorem atI_m {k : Nat} {x0 : α} (hk : k < l.length) : atI (l.map g) ((k : Nat) : Int) = some (g (l.getD k x0)) := by
  refine atI_nat rfl ?_
  rw [List.getElem?_map, List.getD_eq_getElem?_getD, List.getElem?_eq_getElem hk]
  rfl
theorem atI_last {x0 : α} (h : 0 < l.length) : atI (l.map g) (-1) = some (g (l.getD (l.length - 1) x0)) := by
  have e : ixN (l.map g).length (-1) = some (l.length - 1) := by
    unfold ixN
    rw [List.length_map, if_neg (by decide), if_pos (by omega)]
    congr 1
    omega
  unfold atI
  rw [e]
  show (l.map g)[l.length - 1]? = _
  rw [List.getElem?_map, List.getD_eq_getElem?_getD, List.getElem?_eq_getElem (by omega)]
  rfl
end
section
variable {S : Store} {QD : D → Store → Prop} {l m : List Int} {x y : Int} {a : Str} {d e : D}
theorem Ok.ixm {k : Nat} {i : Int} (e : i = k) (hk : k < l.length) (h : QD (.int (l.getD k 0)) S) : Ok (ixD (.tup (l.map .int)) (.int i) S) QD := by subst e; exact Ok.ix_t ⟨_, atI_m hk, h⟩
theorem Ok.ixl {k : Nat} {i : Int} (e : i = k) (hk : k < l.length) (h : QD (.int (l.getD k 0)) S) : Ok (ixD (.lst (l.map .int)) (.int i) S) QD := by subst e; exact Ok.ix_l ⟨_, atI_m hk, h⟩
theorem Ok.ixm0 (hk : 0 < l.length) (h : QD (.int (l.getD 0 0)) S) : Ok (ixD (.tup (l.map .int)) (.int 0) S) QD := Ok.ixm (k := 0) rfl hk h
theorem Ok.ixm1 (hk : 1 < l.length) (h : QD (.int (l.getD 1 0)) S) : Ok (ixD (.tup (l.map .int)) (.int 1) S) QD := Ok.ixm (k := 1) rfl hk h
theorem Ok.ixm9 (hk : 0 < l.length) (h : QD (.int (l.getD (l.length - 1) 0)) S) : Ok (ixD (.tup (l.map .int)) (.int (-1)) S) QD := Ok.ix_t ⟨_, atI_last hk, h⟩
theorem Ok.ixl0 (hk : 0 < l.length) (h : QD (.int (l.getD 0 0)) S) : Ok (ixD (.lst (l.map .int)) (.int 0) S) QD := Ok.ixl (k := 0) rfl hk h
theorem Ok.ixl1 (hk : 1 < l.length) (h : QD (.int (l.getD 1 0)) S) : Ok (ixD (.lst (l.map .int)) (.int 1) S) QD := Ok.ixl (k := 1) rfl hk h
theorem Ok.ixl9 (hk : 0 < l.length) (h : QD (.int (l.getD (l.length - 1) 0)) S) : Ok (ixD (.lst (l.map .int)) (.int (-1)) S) QD := Ok.ix_l ⟨_, atI_last hk, h⟩
theorem Ok.ad_1m (hl : l.length ≤ 900) (h : QD (.tup ((x :: l).map .int)) S) : Ok (addD (.tup [.int x]) (.tup (l.map .int)) S) QD := Ok.add_tt (by simp; omega) h
theorem Ok.ad_2m (hl : l.length ≤ 900) (h : QD (.tup ((x :: y :: l).map .int)) S) : Ok (addD (.tup [.int x, .int y]) (.tup (l.map .int)) S) QD := Ok.add_tt (by simp; omega) h
theorem Ok.ad_m1 (hl : l.length ≤ 900) (h : QD (.tup ((l ++ [x]).map .int)) S) : Ok (addD (.tup (l.map .int)) (.tup [.int x]) S) QD := Ok.add_tt (by simp; omega) (by rw [List.map_append] at h; exact h)
theorem Ok.ad_mm (hl : l.length + m.length ≤ 900) (h : QD (.tup ((l ++ m).map .int)) S) : Ok (addD (.tup (l.map .int)) (.tup (m.map .int)) S) QD := Ok.add_tt (by simp; omega) (by rw [List.map_append] at h; exact h)
theorem Ok.al_1m (hl : l.length ≤ 900) (h : QD (.lst ((x :: l).map .int)) S) : Ok (addD (.lst [.int x]) (.lst (l.map .int)) S) QD := Ok.add_ll (by simp; omega) h
theorem Ok.al_2m (hl : l.length ≤ 900) (h : QD (.lst ((x :: y :: l).map .int)) S) : Ok (addD (.lst [.int x, .int y]) (.lst (l.map .int)) S) QD := Ok.add_ll (by simp; omega) h
theorem Ok.al_m1 (hl : l.length ≤ 900) (h : QD (.lst ((l ++ [x]).map .int)) S) : Ok (addD (.lst (l.map .int)) (.lst [.int x]) S) QD := Ok.add_ll (by simp; omega) (by rw [List.map_append] at h; exact h)
theorem Ok.al_mm (hl : l.length + m.length ≤ 900) (h : QD (.lst ((l ++ m).map .int)) S) : Ok (addD (.lst (l.map .int)) (.lst (m.map .int)) S) QD := Ok.add_ll (by simp; omega) (by rw [List.map_append] at h; exact h)
/-! texts in displays -/
def strsD : List D → Option (List Str)
  | [] => some []
  | .str a :: r => (strsD r).map (a :: ·)
  | _ => none
theorem strsD_eq : ∀ {l : List D} {ks : List Str}, strsD l = some ks → l = ks.map .str
  | [], _, h => by cases h; rfl
  | d :: l, ks, h => by
    cases d with
    | str a =>
      unfold strsD at h
      simp only [Option.map_eq_some_iff] at h
      obtain ⟨ks', h1, rfl⟩ := h
      rw [strsD_eq h1]
      rfl
    | _ => simp [strsD] at h
theorem in_lstS' {a : Str} {l : List Str} (h : PyData.strOk a = true) (hl : ∀ a ∈ l, PyData.strOk a = true) : inD (.str a) (.lst (l.map .str)) S = .ok (.bl (decide (a ∈ l))) S := in_lstS l h hl
theorem Ok.in_td {l : List D} {ks : List Str} (e : strsD l = some ks) (ha : PyData.strOk a = true) (hk : ∀ a ∈ ks, PyData.strOk a = true) (h : QD (.bl (decide (a ∈ ks))) S) : Ok (inD (.str a) (.tup l) S) QD := by rw [strsD_eq e]; exact Ok.in_st ha hk h
theorem Ok.nin_td {l : List D} {ks : List Str} (e : strsD l = some ks) (ha : PyData.strOk a = true) (hk : ∀ a ∈ ks, PyData.strOk a = true) (h : QD (.bl (!decide (a ∈ ks))) S) : Ok (notInD (.str a) (.tup l) S) QD := by rw [strsD_eq e]; exact Ok.nin_st ha hk h
theorem Ok.in_ld {l : List D} {ks : List Str} (e : strsD l = some ks) (ha : PyData.strOk a = true) (hk : ∀ a ∈ ks, PyData.strOk a = true) (h : QD (.bl (decide (a ∈ ks))) S) : Ok (inD (.str a) (.lst l) S) QD := by rw [strsD_eq e]; exact Ok.of (in_lstS ks ha hk) h
theorem Ok.lt_ss {b : Str} (h : QD (.bl (decide (a.cps.toList < b.cps.toList))) S) : Ok (ltD (.str a) (.str b) S) QD := h
theorem Ok.int_s {n : Int} (e : PySem.intText? a = some n) (hl : a.length ≤ 640) (h : QD (.int n) S) : Ok (intD [.str a] S) QD := by
  refine Ok.of (v := .int n) (S1 := S) ?_ h
  unfold intD
  simp only [e, if_pos hl]
theorem Ok.str_i {n : Int} (hl : n.natAbs.log2 < 1920) (h : QD (.str (Str.ofString (toString n))) S) : Ok (strD [.int n] S) QD := Ok.of (str_int hl) h
theorem Ok.cnt {n : Nat} {l : List Str} (e : S[n]? = some (some (.lst (l.map .str)))) (ha : PyData.strOk a = true) (hl : ∀ a ∈ l, PyData.strOk a = true) (h : QD (.int (l.count a : Nat)) S) : Ok (cntD (.ob n) [.str a] S) QD := Ok.of (cnt_obS ha hl e) h
theorem Ok.tup_o {n : Nat} {l : List D} (e : S[n]? = some (some (.lst l))) (h : QD (.tup l) S) : Ok (tupleD [.ob n] S) QD := Ok.of (tuple_ob e) h
/-! an object of the store, written again and again -/
variable {o b : Nat} {S0 : Store} {c : Str} {fs : List (Str × D)} {cs : List Str} {f : Str}
theorem set_self {w : Option O} (h : S[o]? = some w) : S = S.set o w := by
  apply List.ext_getElem?
  intro i
  by_cases e : i = o
  · subst e
    rw [List.getElem?_set_self (List.getElem?_eq_some_iff.mp h).1, h]
  · rw [List.getElem?_set_ne (Ne.symm e)]
theorem Ok.fldM (hlt : o < S0.length) (hc : cs.contains c = true) (h : ∃ d, fs.lookup f = some d ∧ QD d (S0.set o (some (.ins c fs)))) : Ok (DL.fldD cs f (.ob o) (S0.set o (some (.ins c fs)))) QD :=
  Ok.fldD (List.getElem?_set_self hlt) hc h.choose_spec.1 h.choose_spec.2
theorem Ok.fldN {w : Option O} (hb : S0[b]? = some (some (.ins c fs))) (hn : o ≠ b) (hc : cs.contains c = true) (h : ∃ d, fs.lookup f = some d ∧ QD d (S0.set o w)) : Ok (DL.fldD cs f (.ob b) (S0.set o w)) QD :=
  Ok.fldD (by rw [List.getElem?_set_ne hn]; exact hb) hc h.choose_spec.1 h.choose_spec.2
theorem Ok.setM {Q : Unit → Store → Prop} (hlt : o < S0.length) (hc : cs.contains c = true) (hl : fs.length < 1000) (h : ∃ fs', putD f d fs = fs' ∧ Q () (S0.set o (some (.ins c fs')))) : Ok (DL.setA cs f (.ob o) d (S0.set o (some (.ins c fs)))) Q := by
  obtain ⟨fs', hp, h⟩ := h
  refine Ok.setA (List.getElem?_set_self hlt) hc hl ?_
  rw [List.set_set, hp]
  exact h
theorem Ok.dgetM {y : D} {t : List (Key × D)} (hlt : o < S0.length) (h : ∃ k d, keyD y = some k ∧ valD t k = some d ∧ QD d (S0.set o (some (.dk t)))) : Ok (dgtD (.ob o) y (S0.set o (some (.dk t)))) QD := by
  obtain ⟨k, d, hk, hv, h⟩ := h
  exact Ok.dget (List.getElem?_set_self hlt) hk hv h
theorem Ok.dsetM {y : D} {t : List (Key × D)} {Q : Unit → Store → Prop} (hlt : o < S0.length) (hl : t.length < 100000) (h : ∃ k t', keyD y = some k ∧ putKD t k d = t' ∧ Q () (S0.set o (some (.dk t')))) : Ok (dstD (.ob o) y d (S0.set o (some (.dk t)))) Q := by
  obtain ⟨k, t', hk, hp, h⟩ := h
  refine Ok.dset (List.getElem?_set_self hlt) hk hl ?_
  rw [List.set_set, hp]
  exact h
end
theorem Ok.mtd1 {S : Store} {QD : D → Store → Prop} {fr : Frame} {nm c : Str} {g : List D → M D} {fo : Frame → M D} {fs : List (Frame → M D)} (h : Ok (fo fr S) fun o S1 => ∃ n fl, o = .ob n ∧ S1[n]? = some (some (.ins c fl)) ∧ fl.lookup nm = none ∧ Ok (seqA fs fr S1) fun xs S2 => Ok (g (o :: xs) S2) QD) : Ok (mtdF nm [(c, fun xs => g (xs ++ []))] fo fs fr S) QD :=
  Ok.mtd (c := c) (h.imp fun o S1 q => by
    obtain ⟨n, fl, rfl, e, hn, q⟩ := q
    exact ⟨n, c, fl, fun xs => g (xs ++ []), rfl, e, hn, by simp [List.lookup], Ok.imp q fun xs S2 q => by simp only [List.append_nil]; exact q⟩)
theorem Ok.prp1 {S : Store} {QD : D → Store → Prop} {fr : Frame} {c : Str} {g : List D → M D} {fo : Frame → M D} (h : Ok (fo fr S) fun o S1 => ∃ n fl, o = .ob n ∧ S1[n]? = some (some (.ins c fl)) ∧ Ok (g [o] S1) QD) : Ok (prpF [(c, g)] fo fr S) QD :=
  Ok.prp (h.imp fun o S1 q => by
    obtain ⟨n, fl, rfl, e, q⟩ := q
    exact ⟨n, c, fl, g, rfl, e, by simp [List.lookup], q⟩)
/-! ### keys -/
inductive Ky
  | dig (n : Fin 10) | lett (i : Fin 4) | plus | minus | times | neg | enter | swap | down | up | last | clear | put | get
  deriving DecidableEq
def DGS : List Str := ["0", "1", "2", "3", "4", "5", "6", "7", "8", "9"]
def Ky.s : Ky → Str
  | .dig n => DGS.getD n.val ""
  | .lett i => (["a", "b", "c", "d"] : List Str).getD i.val ""
  | .plus => "+" | .minus => "-" | .times => "*" | .neg => "neg" | .enter => "enter" | .swap => "swap" | .down => "down" | .up => "up" | .last => "last" | .clear => "clear" | .put => "put" | .get => "get"
def Ky.all : List Ky := (List.ofFn Ky.dig) ++ (List.ofFn Ky.lett) ++ [.plus, .minus, .times, .neg, .enter, .swap, .down, .up, .last, .clear, .put, .get]
theorem dig_ok : ∀ n : Fin 10, strIn (Ky.dig n).s "0123456789" = true ∧ PySem.intText? (Ky.dig n).s = some ((n.val : Nat) : Int) ∧ (Ky.dig n).s.length ≤ 640 ∧ Str.ofString (toString ((n.val : Nat) : Int)) = (Ky.dig n).s := by decide +kernel
theorem lett_ok : ∀ i : Fin 4, strIn (Ky.lett i).s "0123456789" = false ∧ strIn (Ky.lett i).s "abcd" = true ∧ Builtin.Str.occurrences "abcd" (Ky.lett i).s 0 ("abcd" : Str).length 1 = i.val :: [] := by decide +kernel
theorem Ky.mem : ∀ k : Ky, k ∈ Ky.all := by
  intro k
  cases k with
  | dig n => revert n; decide
  | lett n => revert n; decide
  | _ => decide
theorem Ky.ok_all : ∀ k ∈ Ky.all, PyData.strOk k.s = true ∧ k.s.length ≤ 5 := by decide +kernel
theorem Ky.ok (k : Ky) : PyData.strOk k.s = true := (Ky.ok_all k k.mem).1
theorem Ky.len (k : Ky) : k.s.length ≤ 5 := (Ky.ok_all k k.mem).2
theorem Ky.inj_all : ∀ k ∈ Ky.all, ∀ j ∈ Ky.all, k.s = j.s → k = j := by decide +kernel
theorem Ky.inj {k j : Ky} (h : k.s = j.s) : k = j := Ky.inj_all k k.mem j j.mem h
theorem Ky.lits_ok (ks : List Ky) : ∀ a ∈ ks.map Ky.s, PyData.strOk a = true := by
  intro a h
  obtain ⟨k, _, rfl⟩ := List.mem_map.mp h
  exact k.ok
/-- a row of keys as data -/
def rowD (ks : List Ky) : D := .tup ((ks.map Ky.s).map .str)
/-- the keys that a box may keep at -/
def KEEPS : List Str := ["*", "+", "-", "neg"]
/-! ### a machine's parts -/
structure St where
  lv : List Int
  kp : Int
  mem : Int
  way : Str
def comeL (way : Str) (n : Int) (l : List Int) : List Int := if way = "held" then n :: l.drop 1 else n :: l.dropLast
def St.come (s : St) (n : Int) : St := ⟨comeL s.way n s.lv, s.kp, s.mem, s.way⟩
def pressS (deep : Str) (l : List Int) : Ky → St → St
  | .dig n, s => ⟨if s.way = "open" then (10 * s.lv.getD 0 0 + (n.val : Nat)) :: s.lv.drop 1 else comeL s.way (n.val : Nat) s.lv, s.kp, s.mem, "open"⟩
  | .lett i, s => ⟨comeL s.way (l.getD i.val 0) s.lv, s.kp, s.mem, "free"⟩
  | .enter, s => ⟨s.lv.getD 0 0 :: s.lv.dropLast, s.kp, s.mem, "held"⟩
  | .clear, s => ⟨0 :: s.lv.drop 1, s.kp, s.mem, "held"⟩
  | .plus, s => ⟨(s.lv.getD 1 0 + s.lv.getD 0 0) :: s.lv.drop 2 ++ [if deep = "copy" then s.lv.getD (s.lv.length - 1) 0 else 0], s.kp, s.mem, "free"⟩
  | .minus, s => ⟨(s.lv.getD 1 0 - s.lv.getD 0 0) :: s.lv.drop 2 ++ [if deep = "copy" then s.lv.getD (s.lv.length - 1) 0 else 0], s.kp, s.mem, "free"⟩
  | .times, s => ⟨(s.lv.getD 1 0 * s.lv.getD 0 0) :: s.lv.drop 2 ++ [if deep = "copy" then s.lv.getD (s.lv.length - 1) 0 else 0], s.kp, s.mem, "free"⟩
  | .neg, s => ⟨(0 - s.lv.getD 0 0) :: s.lv.drop 1, s.kp, s.mem, "free"⟩
  | .swap, s => ⟨s.lv.getD 1 0 :: s.lv.getD 0 0 :: s.lv.drop 2, s.kp, s.mem, "free"⟩
  | .down, s => ⟨s.lv.drop 1 ++ s.lv.take 1, s.kp, s.mem, "free"⟩
  | .up, s => ⟨s.lv.drop (s.lv.length - 1) ++ s.lv.dropLast, s.kp, s.mem, "free"⟩
  | .last, s => ⟨comeL s.way s.kp s.lv, s.kp, s.mem, "free"⟩
  | .put, s => ⟨s.lv, s.kp, s.lv.getD 0 0, "free"⟩
  | .get, s => ⟨comeL s.way s.mem s.lv, s.kp, s.mem, "free"⟩
/-- what a key that the box keeps at does ahead of all -/
def keepS (ks : List Str) (k : Ky) (s : St) : St := ⟨s.lv, if decide (k.s ∈ ks) = true then s.lv.getD 0 0 else s.kp, s.mem, s.way⟩
def pressN (deep : Str) (ks : List Str) (l : List Int) (k : Ky) (s : St) : St := pressS deep l k (keepS ks k s)
theorem pressS_len {deep : Str} {l : List Int} {k : Ky} {s : St} (h : 2 ≤ s.lv.length) : (pressS deep l k s).lv.length = s.lv.length := by
  cases k <;> simp only [pressS, comeL]
  all_goals (try split)
  all_goals (try split)
  all_goals (try simp only [List.length_cons, List.length_append, List.length_drop, List.length_take, List.length_dropLast, List.length_nil])
  all_goals omega
theorem pressN_len {deep : Str} {ks : List Str} {l : List Int} {k : Ky} {s : St} (h : 2 ≤ s.lv.length) : (pressN deep ks l k s).lv.length = s.lv.length := pressS_len (s := keepS ks k s) h
end DL
namespace DL.Lb
open PySem PySem.Spec PyProof.Rows L2 DL
def K_KEEPING : List Str := ["*", "+", "-", "neg"]
noncomputable def B_x_draw : SM := seqS (asgG (tgSub (varF 0) (cstF (.int 1))) (binF addD (binF ixD (varF 0) (cstF (.int 1))) (cstF (.int 1)))) (seqS (asgG (tgTup [tgName 2, tgName 3]) (tupF [cstF (.int 0), unF negD (cstF (.int 1))])) (seqS (ifS (tbF (binF gtD (calF lenD [binF ixD (varF 0) (cstF (.int 0))]) (cstF (.int 0)))) (seqS (asgF 3 (binF modD (calF intD [binF ixD (varF 0) (cstF (.int 1))]) (calF lenD [binF ixD (varF 0) (cstF (.int 0))]))) (asgF 2 (binF ixD (binF ixD (varF 0) (cstF (.int 0))) (varF 3)))) (nxF)) (seqS (ifS (tbF (binF geD (varF 2) (binF powD (cstF (.int 10)) (cstF (.int 18))))) (seqS (asgG (tgSub (binF ixD (varF 0) (cstF (.int 0))) (varF 3)) (binF fdivD (calF intD [varF 2]) (varF 1))) (retF (binF modD (calF intD [varF 2]) (varF 1)))) (nxF)) (seqS (asgF 4 (binF addD (binF addD (binF modD (calF intD [varF 2]) (cstF (.int 2147483549))) (binF mulD (cstF (.int 11209)) (binF ixD (varF 0) (cstF (.int 1))))) (cstF (.int 5)))) (retF (binF modD (calF intD [binF modD (calF intD [binF powD (varF 4) (cstF (.int 5))]) (cstF (.int 2147483587))]) (varF 1)))))))
noncomputable abbrev F_x_draw : List D → M D := defF 5 B_x_draw
noncomputable def B_x_one : SM := retF (binF ixD (varF 1) (calF (fun xs => F_x_draw (xs ++ [])) [varF 0, calF lenD [varF 1]]))
noncomputable abbrev F_x_one : List D → M D := defF 2 B_x_one
noncomputable def B_x_rules : SM := seqS (parF [1, 2] [calF (fun xs => F_x_one (xs ++ [])) [varF 0, lstF [cstF (.int 2), cstF (.int 3), cstF (.int 4), cstF (.int 5), cstF (.int 6)]], calF (fun xs => F_x_one (xs ++ [])) [varF 0, lstF [cstF (.str "copy"), cstF (.str "nought")]]]) (seqS (asgF 3 (lstF [tupF [], tupF [cstF (.str "*"), cstF (.str "+"), cstF (.str "-")], tupF [cstF (.str "*"), cstF (.str "+"), cstF (.str "-"), cstF (.str "neg")], tupF [cstF (.str "neg")], tupF [cstF (.str "+")], tupF [cstF (.str "*"), cstF (.str "-")]])) (retF (tupF [varF 1, varF 2, calF (fun xs => F_x_one (xs ++ [])) [varF 0, varF 3]])))
noncomputable abbrev F_x_rules : List D → M D := defF 4 B_x_rules
noncomputable def B_x_number : SM := seqS (parF [1, 2] [binF subD (calF (fun xs => F_x_draw (xs ++ [])) [varF 0, cstF (.int 19)]) (cstF (.int 9)), binF subD (calF (fun xs => F_x_draw (xs ++ [])) [varF 0, cstF (.int 2001)]) (cstF (.int 1000))]) (retF (calF (fun xs => F_x_one (xs ++ [])) [varF 0, lstF [cstF (.int 0), cstF (.int 1), unF negD (cstF (.int 1)), cstF (.int 2), varF 1, varF 1, varF 2, binF addD (binF powD (cstF (.int 10)) (cstF (.int 20))) (varF 2), binF subD (varF 2) (binF powD (cstF (.int 10)) (cstF (.int 39)))]]))
noncomputable abbrev F_x_number : List D → M D := defF 3 B_x_number
noncomputable def E_x_numbers_1 : DL.Frame → M D := calF (fun xs => F_x_number (xs ++ [])) [varF 0]
noncomputable def B_x_numbers : SM := retF (calF tupleD [cmpD [2] (rngF rng1 [varF 1]) (tgName 2) (yesF) (E_x_numbers_1)])
noncomputable abbrev F_x_numbers : List D → M D := defF 3 B_x_numbers
noncomputable def B_x_state : SM := retF (tupF [calF (fun xs => F_x_numbers (xs ++ [])) [varF 0, varF 1], calF (fun xs => F_x_number (xs ++ [])) [varF 0], calF (fun xs => F_x_number (xs ++ [])) [varF 0], varF 2])
noncomputable abbrev F_x_state : List D → M D := defF 3 B_x_state
noncomputable def B_x_mode : SM := retF (calF (fun xs => F_x_one (xs ++ [])) [varF 0, lstF [cstF (.str "free"), cstF (.str "held"), cstF (.str "open")]])
noncomputable abbrev F_x_mode : List D → M D := defF 1 B_x_mode
noncomputable def B_x_key : SM := seqS (asgF 1 (lstF [cstF (.str "enter"), cstF (.str "enter"), cstF (.str "neg"), cstF (.str "swap"), cstF (.str "swap"), cstF (.str "down"), cstF (.str "up"), cstF (.str "last"), cstF (.str "clear"), cstF (.str "put"), cstF (.str "get")])) (retF (calF (fun xs => F_x_one (xs ++ [])) [varF 0, binF addD (lstF [cstF (.str "+"), cstF (.str "+"), cstF (.str "-"), cstF (.str "-"), cstF (.str "*"), cstF (.str "*"), cstF (.str "a"), cstF (.str "b"), cstF (.str "c"), cstF (.str "d"), calF strD [calF (fun xs => F_x_draw (xs ++ [])) [varF 0, cstF (.int 10)]]]) (varF 1)]))
noncomputable abbrev F_x_key : List D → M D := defF 2 B_x_key
noncomputable def L_x_row_1 : SM := seqS (asgF 4 (calF (fun xs => F_x_key (xs ++ [])) [varF 0])) (exprF (metF "list" appD (varF 2) [iteF (andF (tbF (binF eqD (varF 4) (cstF (.str "*")))) (tbF (binF eqD (metF "list" cntD (varF 2) [cstF (.str "*")]) (cstF (.int 3))))) (cstF (.str "+")) (varF 4)]))
noncomputable def B_x_row : SM := seqS (asgF 2 (lstO [])) (seqS (forF (rngF rng1 [calF (fun xs => F_x_draw (xs ++ [])) [varF 0, binF addD (varF 1) (cstF (.int 1))]]) (tgName 3) (L_x_row_1)) (retF (calF tupleD [varF 2])))
noncomputable abbrev F_x_row : List D → M D := defF 5 B_x_row
noncomputable def B_is_integer : SM := retF (andV (unF (isiD "int") (varF 0)) (andV (notV (unF (isiD "bool") (varF 0))) (chF leD leD (varF 1) (varF 0) (varF 2))))
noncomputable abbrev F_is_integer : List D → M D := defF 3 B_is_integer
noncomputable def E_are_keeps_1 : DL.Frame → M D := andV (unF (isiD "str") (varF 3)) (binF inD (varF 3) (cstF (.ctu (K_KEEPING.map .str))))
noncomputable def E_are_keeps_2 : DL.Frame → M D := binF ltD (varF 1) (varF 2)
noncomputable def B_are_keeps : SM := seqS (ifS (orF (notF (tstF (unF (isiD "tuple") (varF 0)))) (notF (tstF (calF allD [cmpD [3] (itF (varF 0)) (tgName 3) (yesF) (E_are_keeps_1)])))) (retF (cstF (.bl false))) (nxF)) (retF (calF allD [cmpD [1, 2] (rngF zipS [varF 0, sliF sliD (varF 0) (some (cstF (.int 1))) none]) (tgTup [tgName 1, tgName 2]) (yesF) (E_are_keeps_2)]))
noncomputable abbrev F_are_keeps : List D → M D := defF 4 B_are_keeps
noncomputable def B_Box_init : SM := seqS (ifS (notF (tstF (calF (fun xs => F_is_integer (xs ++ [])) [varF 1, cstF (.int 2), cstF (.int 6)]))) (badS) (nxF)) (seqS (ifS (orF (notF (tstF (unF (isiD "str") (varF 2)))) (tbF (binF notInD (varF 2) (tupF [cstF (.str "copy"), cstF (.str "nought")])))) (badS) (nxF)) (seqS (ifS (notF (tstF (calF (fun xs => F_are_keeps (xs ++ [])) [varF 3]))) (badS) (nxF)) (asgG (tgAtt ["Box"] "_rules" (varF 0)) (tupF [varF 1, varF 2, varF 3]))))
noncomputable abbrev F_Box_init : List D → M D := defF 4 B_Box_init
noncomputable def B_x_box : SM := retF (makF "Box" (fun xs => F_Box_init (xs ++ [])) [binF ixD (varF 0) (cstF (.int 0)), binF ixD (varF 0) (cstF (.int 1)), binF ixD (varF 0) (cstF (.int 2))])
noncomputable abbrev F_x_box : List D → M D := defF 1 B_x_box
noncomputable def B_x_world : SM := seqS (asgF 3 (dispF [(cstF (.str "rules"), varF 0), (cstF (.str "levels"), calF listD [binF ixD (varF 1) (cstF (.int 0))]), (cstF (.str "last"), binF ixD (varF 1) (cstF (.int 1))), (cstF (.str "memory"), binF ixD (varF 1) (cstF (.int 2))), (cstF (.str "mode"), binF ixD (varF 1) (cstF (.int 3)))])) (seqS (asgG (tgDic (varF 3) (cstF (.str "letters"))) (varF 2)) (retF (varF 3)))
noncomputable abbrev F_x_world : List D → M D := defF 4 B_x_world
noncomputable def B_x_come_in : SM := seqS (asgF 2 (iteF (tbF (binF eqD (binF dgtD (varF 0) (cstF (.str "mode"))) (cstF (.str "held")))) (sliF sliD (binF dgtD (varF 0) (cstF (.str "levels"))) (some (cstF (.int 1))) none) (sliF sliD (binF dgtD (varF 0) (cstF (.str "levels"))) none (some (unF negD (cstF (.int 1))))))) (asgG (tgDic (varF 0) (cstF (.str "levels"))) (binF addD (lstF [varF 1]) (varF 2)))
noncomputable abbrev F_x_come_in : List D → M D := defF 3 B_x_come_in
noncomputable def B_x_move : SM := seqS (asgF 2 (binF dgtD (varF 0) (cstF (.str "levels")))) (ifS (tbF (binF eqD (varF 1) (cstF (.str "swap")))) (asgG (tgDic (varF 0) (cstF (.str "levels"))) (binF addD (lstF [binF ixD (varF 2) (cstF (.int 1)), binF ixD (varF 2) (cstF (.int 0))]) (sliF sliD (varF 2) (some (cstF (.int 2))) none))) (ifS (tbF (binF eqD (varF 1) (cstF (.str "down")))) (asgG (tgDic (varF 0) (cstF (.str "levels"))) (binF addD (sliF sliD (varF 2) (some (cstF (.int 1))) none) (sliF sliD (varF 2) none (some (cstF (.int 1)))))) (ifS (tbF (binF eqD (varF 1) (cstF (.str "up")))) (asgG (tgDic (varF 0) (cstF (.str "levels"))) (binF addD (sliF sliD (varF 2) (some (unF negD (cstF (.int 1)))) none) (sliF sliD (varF 2) none (some (unF negD (cstF (.int 1))))))) (ifS (tbF (binF eqD (varF 1) (cstF (.str "put")))) (asgG (tgDic (varF 0) (cstF (.str "memory"))) (binF ixD (varF 2) (cstF (.int 0)))) (exprF (calF (fun xs => F_x_come_in (xs ++ [])) [varF 0, binF dgtD (varF 0) (iteF (tbF (binF eqD (varF 1) (cstF (.str "last")))) (cstF (.str "last")) (cstF (.str "memory")))]))))))
noncomputable abbrev F_x_move : List D → M D := defF 3 B_x_move
noncomputable def B_x_press : SM := seqS (parF [2, 3] [binF dgtD (varF 0) (cstF (.str "levels")), binF dgtD (varF 0) (cstF (.str "rules"))]) (seqS (ifS (tbF (binF inD (varF 1) (binF ixD (varF 3) (cstF (.int 2))))) (asgG (tgDic (varF 0) (cstF (.str "last"))) (binF ixD (varF 2) (cstF (.int 0)))) (nxF)) (seqS (asgF 4 (cstF (.str "free"))) (seqS (ifS (tbF (binF inD (varF 1) (cstF (.str "0123456789")))) (seqS (asgF 4 (cstF (.str "open"))) (ifS (tbF (binF eqD (binF dgtD (varF 0) (cstF (.str "mode"))) (cstF (.str "open")))) (asgG (tgDic (varF 0) (cstF (.str "levels"))) (binF addD (lstF [binF addD (binF mulD (cstF (.int 10)) (binF ixD (varF 2) (cstF (.int 0)))) (calF intD [varF 1])]) (sliF sliD (varF 2) (some (cstF (.int 1))) none))) (exprF (calF (fun xs => F_x_come_in (xs ++ [])) [varF 0, calF intD [varF 1]])))) (ifS (tbF (binF inD (varF 1) (cstF (.str "abcd")))) (exprF (calF (fun xs => F_x_come_in (xs ++ [])) [varF 0, binF ixD (binF dgtD (varF 0) (cstF (.str "letters"))) (metF "str" sixD (cstF (.str "abcd")) [varF 1])])) (ifS (tbF (binF inD (varF 1) (lstF [cstF (.str "enter"), cstF (.str "clear")]))) (seqS (asgF 4 (cstF (.str "held"))) (asgG (tgDic (varF 0) (cstF (.str "levels"))) (iteF (tbF (binF eqD (varF 1) (cstF (.str "enter")))) (binF addD (lstF [binF ixD (varF 2) (cstF (.int 0))]) (sliF sliD (varF 2) none (some (unF negD (cstF (.int 1)))))) (binF addD (lstF [cstF (.int 0)]) (sliF sliD (varF 2) (some (cstF (.int 1))) none))))) (ifS (tbF (binF inD (varF 1) (lstF [cstF (.str "+"), cstF (.str "-"), cstF (.str "*")]))) (seqS (parF [5, 6] [binF ixD (varF 2) (cstF (.int 0)), binF ixD (varF 2) (cstF (.int 1))]) (seqS (asgF 7 (binF dgtD (dispF [(cstF (.str "+"), binF addD (varF 6) (varF 5)), (cstF (.str "-"), binF subD (varF 6) (varF 5)), (cstF (.str "*"), binF mulD (varF 6) (varF 5))]) (varF 1))) (asgG (tgDic (varF 0) (cstF (.str "levels"))) (binF addD (binF addD (lstF [varF 7]) (sliF sliD (varF 2) (some (cstF (.int 2))) none)) (lstF [iteF (tbF (binF eqD (binF ixD (varF 3) (cstF (.int 1))) (cstF (.str "copy")))) (binF ixD (varF 2) (unF negD (cstF (.int 1)))) (cstF (.int 0))]))))) (ifS (tbF (binF eqD (varF 1) (cstF (.str "neg")))) (asgG (tgDic (varF 0) (cstF (.str "levels"))) (binF addD (lstF [binF subD (cstF (.int 0)) (binF ixD (varF 2) (cstF (.int 0)))]) (sliF sliD (varF 2) (some (cstF (.int 1))) none))) (exprF (calF (fun xs => F_x_move (xs ++ [])) [varF 0, varF 1]))))))) (asgG (tgDic (varF 0) (cstF (.str "mode"))) (varF 4)))))
noncomputable abbrev F_x_press : List D → M D := defF 8 B_x_press
noncomputable def L_x_run_1 : SM := exprF (calF (fun xs => F_x_press (xs ++ [])) [varF 4, varF 5])
noncomputable def B_x_run : SM := seqS (asgF 4 (calF (fun xs => F_x_world (xs ++ [])) [varF 0, varF 1, varF 3])) (seqS (forF (itF (varF 2)) (tgName 5) (L_x_run_1)) (retF (tupF [calF tupleD [binF dgtD (varF 4) (cstF (.str "levels"))], binF dgtD (varF 4) (cstF (.str "last")), binF dgtD (varF 4) (cstF (.str "memory")), binF dgtD (varF 4) (cstF (.str "mode"))])))
noncomputable abbrev F_x_run : List D → M D := defF 6 B_x_run
noncomputable def B_Machine_init : SM := seqS (asgG (tgAtt ["Machine"] "rules" (varF 0)) (varF 1)) (seqS (asgG (tgTup [tgAtt ["Machine"] "stack" (varF 0), tgAtt ["Machine"] "kept" (varF 0), tgAtt ["Machine"] "store" (varF 0), tgAtt ["Machine"] "way" (varF 0)]) (varF 2)) (seqS (asgG (tgAtt ["Machine"] "keyed" (varF 0)) (varF 3)) (asgG (tgAtt ["Machine"] "arithmetic" (varF 0)) (varF 4))))
noncomputable abbrev F_Machine_init : List D → M D := defF 5 B_Machine_init
noncomputable def B_Whole_constant : SM := retF (varF 1)
noncomputable abbrev F_Whole_constant : List D → M D := defF 2 B_Whole_constant
noncomputable def B_Whole_times : SM := retF (binF mulD (varF 1) (varF 2))
noncomputable abbrev F_Whole_times : List D → M D := defF 3 B_Whole_times
noncomputable def B_Whole_plus : SM := retF (binF addD (varF 1) (varF 2))
noncomputable abbrev F_Whole_plus : List D → M D := defF 3 B_Whole_plus
noncomputable def B_Machine_come_in : SM := ifS (tbF (binF eqD (fldF ["Machine"] "way" (varF 0)) (cstF (.str "held")))) (asgG (tgAtt ["Machine"] "stack" (varF 0)) (binF addD (tupF [varF 1]) (sliF sliD (fldF ["Machine"] "stack" (varF 0)) (some (cstF (.int 1))) none))) (asgG (tgAtt ["Machine"] "stack" (varF 0)) (binF addD (tupF [varF 1]) (sliF sliD (fldF ["Machine"] "stack" (varF 0)) none (some (unF negD (cstF (.int 1)))))))
noncomputable abbrev F_Machine_come_in : List D → M D := defF 2 B_Machine_come_in
noncomputable def B_Machine_press_digit : SM := seqS (asgF 2 (mtdF "constant" [("Whole", fun xs => F_Whole_constant (xs ++ []))] (fldF ["Machine"] "arithmetic" (varF 0)) [varF 1])) (seqS (ifS (tbF (binF eqD (fldF ["Machine"] "way" (varF 0)) (cstF (.str "open")))) (seqS (asgF 3 (mtdF "constant" [("Whole", fun xs => F_Whole_constant (xs ++ []))] (fldF ["Machine"] "arithmetic" (varF 0)) [cstF (.int 10)])) (seqS (asgF 4 (mtdF "plus" [("Whole", fun xs => F_Whole_plus (xs ++ []))] (fldF ["Machine"] "arithmetic" (varF 0)) [mtdF "times" [("Whole", fun xs => F_Whole_times (xs ++ []))] (fldF ["Machine"] "arithmetic" (varF 0)) [varF 3, binF ixD (fldF ["Machine"] "stack" (varF 0)) (cstF (.int 0))], varF 2])) (asgG (tgAtt ["Machine"] "stack" (varF 0)) (binF addD (tupF [varF 4]) (sliF sliD (fldF ["Machine"] "stack" (varF 0)) (some (cstF (.int 1))) none))))) (exprF (mtdF "come_in" [("Machine", fun xs => F_Machine_come_in (xs ++ []))] (varF 0) [varF 2]))) (asgG (tgAtt ["Machine"] "way" (varF 0)) (cstF (.str "open"))))
noncomputable abbrev F_Machine_press_digit : List D → M D := defF 5 B_Machine_press_digit
noncomputable def B_Box_keeps : SM := retF (binF ixD (fldF ["Box"] "_rules" (varF 0)) (cstF (.int 2)))
noncomputable abbrev F_Box_keeps : List D → M D := defF 1 B_Box_keeps
noncomputable def B_Whole_minus : SM := retF (binF subD (varF 1) (varF 2))
noncomputable abbrev F_Whole_minus : List D → M D := defF 3 B_Whole_minus
noncomputable def B_Box_deepest : SM := retF (binF ixD (fldF ["Box"] "_rules" (varF 0)) (cstF (.int 1)))
noncomputable abbrev F_Box_deepest : List D → M D := defF 1 B_Box_deepest
noncomputable def B_Machine_press_sign : SM := seqS (parF [2, 3] [binF ixD (fldF ["Machine"] "stack" (varF 0)) (cstF (.int 0)), binF ixD (fldF ["Machine"] "stack" (varF 0)) (cstF (.int 1))]) (seqS (ifS (tbF (binF eqD (varF 1) (cstF (.str "+")))) (asgF 4 (mtdF "plus" [("Whole", fun xs => F_Whole_plus (xs ++ []))] (fldF ["Machine"] "arithmetic" (varF 0)) [varF 3, varF 2])) (ifS (tbF (binF eqD (varF 1) (cstF (.str "-")))) (asgF 4 (mtdF "minus" [("Whole", fun xs => F_Whole_minus (xs ++ []))] (fldF ["Machine"] "arithmetic" (varF 0)) [varF 3, varF 2])) (asgF 4 (mtdF "times" [("Whole", fun xs => F_Whole_times (xs ++ []))] (fldF ["Machine"] "arithmetic" (varF 0)) [varF 3, varF 2])))) (seqS (asgF 5 (iteF (tbF (binF eqD (prpF [("Box", F_Box_deepest)] (fldF ["Machine"] "rules" (varF 0))) (cstF (.str "copy")))) (binF ixD (fldF ["Machine"] "stack" (varF 0)) (unF negD (cstF (.int 1)))) (mtdF "constant" [("Whole", fun xs => F_Whole_constant (xs ++ []))] (fldF ["Machine"] "arithmetic" (varF 0)) [cstF (.int 0)]))) (asgG (tgAtt ["Machine"] "stack" (varF 0)) (binF addD (binF addD (tupF [varF 4]) (sliF sliD (fldF ["Machine"] "stack" (varF 0)) (some (cstF (.int 2))) none)) (tupF [varF 5])))))
noncomputable abbrev F_Machine_press_sign : List D → M D := defF 6 B_Machine_press_sign
noncomputable def B_Machine_press_mover : SM := ifS (tbF (binF eqD (varF 1) (cstF (.str "swap")))) (asgG (tgAtt ["Machine"] "stack" (varF 0)) (binF addD (tupF [binF ixD (fldF ["Machine"] "stack" (varF 0)) (cstF (.int 1)), binF ixD (fldF ["Machine"] "stack" (varF 0)) (cstF (.int 0))]) (sliF sliD (fldF ["Machine"] "stack" (varF 0)) (some (cstF (.int 2))) none))) (ifS (tbF (binF eqD (varF 1) (cstF (.str "down")))) (asgG (tgAtt ["Machine"] "stack" (varF 0)) (binF addD (sliF sliD (fldF ["Machine"] "stack" (varF 0)) (some (cstF (.int 1))) none) (sliF sliD (fldF ["Machine"] "stack" (varF 0)) none (some (cstF (.int 1)))))) (ifS (tbF (binF eqD (varF 1) (cstF (.str "up")))) (asgG (tgAtt ["Machine"] "stack" (varF 0)) (binF addD (sliF sliD (fldF ["Machine"] "stack" (varF 0)) (some (unF negD (cstF (.int 1)))) none) (sliF sliD (fldF ["Machine"] "stack" (varF 0)) none (some (unF negD (cstF (.int 1))))))) (ifS (tbF (binF eqD (varF 1) (cstF (.str "last")))) (exprF (mtdF "come_in" [("Machine", fun xs => F_Machine_come_in (xs ++ []))] (varF 0) [fldF ["Machine"] "kept" (varF 0)])) (ifS (tbF (binF eqD (varF 1) (cstF (.str "put")))) (asgG (tgAtt ["Machine"] "store" (varF 0)) (binF ixD (fldF ["Machine"] "stack" (varF 0)) (cstF (.int 0)))) (exprF (mtdF "come_in" [("Machine", fun xs => F_Machine_come_in (xs ++ []))] (varF 0) [fldF ["Machine"] "store" (varF 0)]))))))
noncomputable abbrev F_Machine_press_mover : List D → M D := defF 2 B_Machine_press_mover
noncomputable def B_Machine_press : SM := seqS (ifS (tbF (binF inD (varF 1) (cstF (.str "0123456789")))) (seqS (exprF (mtdF "press_digit" [("Machine", fun xs => F_Machine_press_digit (xs ++ []))] (varF 0) [calF intD [varF 1]])) (retN)) (nxF)) (seqS (ifS (tbF (binF eqD (varF 1) (cstF (.str "enter")))) (seqS (asgG (tgAtt ["Machine"] "stack" (varF 0)) (binF addD (sliF sliD (fldF ["Machine"] "stack" (varF 0)) none (some (cstF (.int 1)))) (sliF sliD (fldF ["Machine"] "stack" (varF 0)) none (some (unF negD (cstF (.int 1))))))) (seqS (asgG (tgAtt ["Machine"] "way" (varF 0)) (cstF (.str "held"))) (retN))) (nxF)) (seqS (ifS (tbF (binF eqD (varF 1) (cstF (.str "clear")))) (seqS (asgG (tgAtt ["Machine"] "stack" (varF 0)) (binF addD (tupF [mtdF "constant" [("Whole", fun xs => F_Whole_constant (xs ++ []))] (fldF ["Machine"] "arithmetic" (varF 0)) [cstF (.int 0)]]) (sliF sliD (fldF ["Machine"] "stack" (varF 0)) (some (cstF (.int 1))) none))) (seqS (asgG (tgAtt ["Machine"] "way" (varF 0)) (cstF (.str "held"))) (retN))) (nxF)) (seqS (ifS (tbF (binF inD (varF 1) (prpF [("Box", F_Box_keeps)] (fldF ["Machine"] "rules" (varF 0))))) (asgG (tgAtt ["Machine"] "kept" (varF 0)) (binF ixD (fldF ["Machine"] "stack" (varF 0)) (cstF (.int 0)))) (nxF)) (seqS (ifS (tbF (binF inD (varF 1) (cstF (.str "abcd")))) (exprF (mtdF "come_in" [("Machine", fun xs => F_Machine_come_in (xs ++ []))] (varF 0) [binF ixD (fldF ["Machine"] "keyed" (varF 0)) (metF "str" sixD (cstF (.str "abcd")) [varF 1])])) (ifS (tbF (binF inD (varF 1) (tupF [cstF (.str "+"), cstF (.str "-"), cstF (.str "*")]))) (exprF (mtdF "press_sign" [("Machine", fun xs => F_Machine_press_sign (xs ++ []))] (varF 0) [varF 1])) (ifS (tbF (binF eqD (varF 1) (cstF (.str "neg")))) (asgG (tgAtt ["Machine"] "stack" (varF 0)) (binF addD (tupF [mtdF "minus" [("Whole", fun xs => F_Whole_minus (xs ++ []))] (fldF ["Machine"] "arithmetic" (varF 0)) [mtdF "constant" [("Whole", fun xs => F_Whole_constant (xs ++ []))] (fldF ["Machine"] "arithmetic" (varF 0)) [cstF (.int 0)], binF ixD (fldF ["Machine"] "stack" (varF 0)) (cstF (.int 0))]]) (sliF sliD (fldF ["Machine"] "stack" (varF 0)) (some (cstF (.int 1))) none))) (exprF (mtdF "press_mover" [("Machine", fun xs => F_Machine_press_mover (xs ++ []))] (varF 0) [varF 1]))))) (asgG (tgAtt ["Machine"] "way" (varF 0)) (cstF (.str "free")))))))
noncomputable abbrev F_Machine_press : List D → M D := defF 2 B_Machine_press
noncomputable def B_Machine_parts : SM := retF (tupF [fldF ["Machine"] "stack" (varF 0), fldF ["Machine"] "kept" (varF 0), fldF ["Machine"] "store" (varF 0), fldF ["Machine"] "way" (varF 0)])
noncomputable abbrev F_Machine_parts : List D → M D := defF 1 B_Machine_parts
noncomputable def L_run_1 : SM := exprF (mtdF "press" [("Machine", fun xs => F_Machine_press (xs ++ []))] (varF 4) [varF 5])
noncomputable def B_run : SM := seqS (asgF 4 (makF "Machine" (fun xs => F_Machine_init (xs ++ [])) [varF 0, varF 1, varF 3, makO "Whole"])) (seqS (forF (itF (varF 2)) (tgName 5) (L_run_1)) (retF (mtdF "parts" [("Machine", fun xs => F_Machine_parts (xs ++ []))] (varF 4) [])))
noncomputable abbrev F_run : List D → M D := defF 6 B_run
noncomputable def L_shown_1 : SM := seqS (exprF (mtdF "press" [("Machine", fun xs => F_Machine_press (xs ++ []))] (varF 4) [varF 6])) (exprF (metF "list" appD (varF 5) [binF ixD (fldF ["Machine"] "stack" (varF 4)) (cstF (.int 0))]))
noncomputable def B_shown : SM := seqS (asgF 4 (makF "Machine" (fun xs => F_Machine_init (xs ++ [])) [varF 0, varF 1, varF 3, makO "Whole"])) (seqS (asgF 5 (lstO [])) (seqS (forF (itF (varF 2)) (tgName 6) (L_shown_1)) (retF (calF tupleD [varF 5]))))
noncomputable abbrev F_shown : List D → M D := defF 7 B_shown

/-! ### the machine with whole numbers -/
def mf (b : Nat) (s : St) (l : D) (a : Nat) : List (Str × D) := [("rules", .ob b), ("stack", .tup (s.lv.map .int)), ("kept", .int s.kp), ("store", .int s.mem), ("way", .str s.way), ("keyed", l), ("arithmetic", .ob a)]
def bf (size : Int) (deep : Str) (ks : List Str) : List (Str × D) := [("_rules", .tup [.int size, .str deep, .tup (ks.map .str)])]
section
variable {b a : Nat} {s : St} {l : D} {x : List Int} {i : Int} {w : Str} {size : Int} {deep : Str} {ks : List Str}
theorem g_rules : (mf b s l a).lookup ("rules" : Str) = some (.ob b) := rfl
theorem g_stack : (mf b s l a).lookup ("stack" : Str) = some (.tup (s.lv.map .int)) := rfl
theorem g_kept : (mf b s l a).lookup ("kept" : Str) = some (.int s.kp) := rfl
theorem g_store : (mf b s l a).lookup ("store" : Str) = some (.int s.mem) := rfl
theorem g_way : (mf b s l a).lookup ("way" : Str) = some (.str s.way) := rfl
theorem g_keyed : (mf b s l a).lookup ("keyed" : Str) = some l := rfl
theorem g_arith : (mf b s l a).lookup ("arithmetic" : Str) = some (.ob a) := rfl
theorem g_m : (mf b s l a).lookup ("come_in" : Str) = none ∧ (mf b s l a).lookup ("press_digit" : Str) = none ∧ (mf b s l a).lookup ("press_sign" : Str) = none ∧ (mf b s l a).lookup ("press_mover" : Str) = none ∧ (mf b s l a).lookup ("press" : Str) = none ∧ (mf b s l a).lookup ("parts" : Str) = none := ⟨rfl, rfl, rfl, rfl, rfl, rfl⟩
theorem p_stack : putD "stack" (.tup (x.map .int)) (mf b s l a) = mf b ⟨x, s.kp, s.mem, s.way⟩ l a := rfl
theorem p_kept : putD "kept" (.int i) (mf b s l a) = mf b ⟨s.lv, i, s.mem, s.way⟩ l a := rfl
theorem p_store : putD "store" (.int i) (mf b s l a) = mf b ⟨s.lv, s.kp, i, s.way⟩ l a := rfl
theorem p_way : putD "way" (.str w) (mf b s l a) = mf b ⟨s.lv, s.kp, s.mem, w⟩ l a := rfl
theorem g_br : (bf size deep ks).lookup ("_rules" : Str) = some (.tup [.int size, .str deep, .tup (ks.map .str)]) := rfl
end
theorem c_M : (["Machine"] : List Str).contains "Machine" = true := by decide +kernel
theorem c_B : (["Box"] : List Str).contains "Box" = true := by decide +kernel
theorem mf_len {b a : Nat} {s : St} {l : D} : (mf b s l a).length < 1000 := by show 7 < 1000; decide
/-- the objects that a machine looks at -/
structure Mch (S0 : Store) (o b a : Nat) (size : Int) (deep : Str) (ks : List Str) : Prop where
  lt : o < S0.length
  nb : o ≠ b
  na : o ≠ a
  box : S0[b]? = some (some (.ins "Box" (bf size deep ks)))
  ar : S0[a]? = some (some (.ins "Whole" []))
  sub : ∀ k ∈ ks, k ∈ KEEPS
local macro_rules | `(tactic| and_intros) => `(tactic| repeat (first | ((with_reducible refine Ok.fldM ?_ ?_ ?_); (assumption); (exact c_M); (first | refine ⟨_, g_stack, ?_⟩ | refine ⟨_, g_kept, ?_⟩ | refine ⟨_, g_store, ?_⟩ | refine ⟨_, g_way, ?_⟩ | refine ⟨_, g_keyed, ?_⟩ | refine ⟨_, g_arith, ?_⟩ | refine ⟨_, g_rules, ?_⟩)) | ((with_reducible refine Ok.setM ?_ ?_ ?_ ?_); (assumption); (exact c_M); (exact mf_len); (first | refine ⟨_, p_stack, ?_⟩ | refine ⟨_, p_kept, ?_⟩ | refine ⟨_, p_store, ?_⟩ | refine ⟨_, p_way, ?_⟩)) | with_reducible refine Ok.sl_d1 ?_ | with_reducible refine Ok.sl_d2 ?_ | with_reducible refine Ok.sl_t1 ?_ | with_reducible refine Ok.sl_dl ?_ | with_reducible refine Ok.sl_l1 ?_ | ((with_reducible refine Ok.ad_1m ?_ ?_); (simp; omega)) | ((with_reducible refine Ok.ad_2m ?_ ?_); (simp; omega)) | ((with_reducible refine Ok.ad_m1 ?_ ?_); (simp; omega)) | ((with_reducible refine Ok.ad_mm ?_ ?_); (simp; omega)) | ((with_reducible refine Ok.ixm0 ?_ ?_); (omega)) | ((with_reducible refine Ok.ixm1 ?_ ?_); (omega)) | ((with_reducible refine Ok.ixm9 ?_ ?_); (omega)) | with_reducible refine Ok.sli_tail ?_ | ((with_reducible refine Ok.var ?_); refine ⟨_, rfl, ?_⟩) | ((with_reducible refine Fr.go ?_); intro fr_ e_; simp only [List.set_cons_zero, List.set_cons_succ, setAll, wipeF] at e_; subst e_) | with_reducible refine Ok.bin ?_ | with_reducible refine Ok.calp ?_ | with_reducible refine Ok.cal ?_ | with_reducible refine Ok.cst ?_ | with_reducible refine Ok.acons ?_ | with_reducible refine Ok.anil ?_ | with_reducible refine Ok.un ?_ | with_reducible refine Ok.tb ?_ | with_reducible refine Ok.tsb ?_ | with_reducible refine OkS.seq ?_ | with_reducible refine OkS.asg ?_ | with_reducible refine Then.nx ?_ | with_reducible refine Then.rt ?_ | with_reducible refine OkS.ifS ?_ | with_reducible refine Ok.notF ?_ | with_reducible refine Ok.andF ?_ | with_reducible refine Ok.orF ?_ | with_reducible refine Ok.ite ?_ | with_reducible refine Br.t ?_ | with_reducible refine Br.f ?_ | with_reducible refine Br.not ?_ | ((with_reducible refine OkS.aug ?_); refine ⟨_, rfl, ?_⟩) | ((with_reducible refine Ok.ix_t ?_); refine ⟨_, rfl, ?_⟩) | ((with_reducible refine Ok.ix_l ?_); refine ⟨_, rfl, ?_⟩) | ((with_reducible refine Ok.tgT ?_ ?_); exact rfl) | with_reducible refine Ok.tup ?_ | with_reducible refine Ok.lst ?_ | with_reducible refine Ok.lstO ?_ | with_reducible refine Ok.tst ?_ | with_reducible refine Ok.tru_bl ?_ | with_reducible refine Ok.tru_non ?_ | with_reducible refine Ok.tru_tup ?_ | with_reducible refine Ok.tru_lst ?_ | with_reducible refine Ok.tru_int ?_ | with_reducible refine Ok.boolF ?_ | with_reducible refine Ok.andV ?_ | with_reducible refine Ok.orV ?_ | with_reducible refine Ok.notV ?_ | with_reducible refine Ok.yes ?_ | with_reducible refine Ok.prtN ?_ | with_reducible refine Ok.prtS ?_ | with_reducible refine Ok.sli ?_ | with_reducible refine Ok.chF ?_ | with_reducible refine Ok.exi ?_ | with_reducible refine Ok.exb ?_ | with_reducible refine Ok.add_ii ?_ | with_reducible refine Ok.sub_ii ?_ | with_reducible refine Ok.neg_i ?_ | with_reducible refine Ok.lt_ii ?_ | with_reducible refine Ok.le_ii ?_ | with_reducible refine Ok.gt_ii ?_ | with_reducible refine Ok.ge_ii ?_ | with_reducible refine Ok.eq_ii ?_ | with_reducible refine Ok.ne_ii ?_ | with_reducible refine Ok.eq_ss ?_ | with_reducible refine Ok.ne_ss ?_ | with_reducible refine Ok.in_ss ?_ | with_reducible refine Ok.nin_ss ?_ | with_reducible refine Ok.is_nn ?_ | with_reducible refine Ok.int_i ?_ | with_reducible refine Ok.int_b ?_ | with_reducible refine Ok.str_s ?_ | with_reducible refine Ok.max_ii ?_ | with_reducible refine Ok.min_ii ?_ | with_reducible refine Ok.len_t ?_ | with_reducible refine Ok.len_l ?_ | with_reducible refine Ok.tup_t ?_ | with_reducible refine Ok.tup_l ?_ | with_reducible refine Ok.lst_t ?_ | with_reducible refine Ok.lst_l ?_ | with_reducible refine Ok.sli_t ?_ | with_reducible refine Ok.sli_l ?_ | with_reducible refine OkS.ret ?_ | with_reducible refine OkS.retN ?_ | with_reducible refine OkS.expr ?_ | with_reducible refine OkS.nx ?_ | with_reducible refine OkS.bk ?_ | with_reducible refine OkS.ct ?_ | with_reducible refine Then.bk ?_ | with_reducible refine Then.ct ?_ | with_reducible refine Rt.rt ?_ | with_reducible refine Rt.nx ?_ | with_reducible refine Lp.nx ?_ | with_reducible refine Lp.ct ?_ | with_reducible refine Lp.bk ?_ | with_reducible refine Lp.rt ?_ | with_reducible refine OkS.asgG ?_ | with_reducible refine OkS.par ?_ | with_reducible refine Ok.iadd_ii ?_ | with_reducible refine Ok.isub_ii ?_ | with_reducible refine Ok.tgN ?_ | with_reducible refine Ok.tgA0 ?_ | with_reducible refine Ok.tgA ?_ | with_reducible refine Ok.tgSub ?_ | with_reducible refine Ok.rngF ?_ | with_reducible refine Ok.cmpD ?_ | with_reducible refine Ok.cmpO ?_ | with_reducible refine Ok.ret ?_ | with_reducible refine Ok.ok ?_ | with_reducible refine Ok.newO ?_ | with_reducible refine Ok.bnd ?_ | with_reducible refine OkS.fore ?_ | with_reducible refine Ok.cmpe ?_ | with_reducible refine Ok.itT ?_ | with_reducible refine ItQ.tup ?_ | with_reducible refine ItQ.lst ?_ | with_reducible refine ItQ.ctu ?_ | with_reducible refine SrcQ.con ?_ | with_reducible refine SrcQ.tup ?_ | with_reducible refine SrcQ.lst ?_ | with_reducible refine SrcQ.ctu ?_ | ((with_reducible refine Ok.mod_ii ?_ ?_); (first | decide | (simp; done) | (simp; omega))) | ((with_reducible refine Ok.add_tt ?_ ?_); (first | decide | (simp; done) | (simp; omega))) | ((with_reducible refine Ok.add_ll ?_ ?_); (first | decide | (simp; done) | (simp; omega))) | ((with_reducible refine Ok.add_ss ?_ ?_); (first | decide | (simp; done) | (simp; omega))) | ((with_reducible refine Ok.rng1 ?_ ?_); (first | decide | omega | (simp; omega))) | ((with_reducible refine Br.dt ?_ ?_); (first | assumption | exact rfl | omega | decide +kernel)) | ((with_reducible refine Br.df ?_ ?_); (first | assumption | omega | decide +kernel)) | ((with_reducible refine Br.tt ?_ ?_); (first | assumption | decide +kernel)) | ((with_reducible refine Br.ff ?_ ?_); (first | assumption | decide +kernel)) | with_reducible refine Ok.is_in ?_ | with_reducible refine Ok.is_tn ?_ | with_reducible refine Ok.is_bn ?_ | with_reducible refine Ok.is_sn ?_ | with_reducible refine Ok.nis_in ?_ | with_reducible refine Ok.nis_tn ?_ | with_reducible refine Ok.nis_bn ?_ | with_reducible refine Ok.nis_sn ?_ | with_reducible refine OkS.lcons ?_ | with_reducible refine OkS.lnil ?_ | with_reducible refine Ok.icons ?_ | with_reducible refine Ok.inil ?_ | with_reducible refine Ok.is_bb ?_ | with_reducible refine Ok.nis_bb ?_ | with_reducible refine Ok.nis_nn ?_ | with_reducible refine Ok.pcons ?_ | with_reducible refine Ok.pnil ?_ | with_reducible refine Ok.dctK ?_ | with_reducible refine Ok.tgDic ?_ | with_reducible refine Ok.fld ?_ | with_reducible refine Ok.tgAtt ?_ | with_reducible refine Ok.makO ?_ | ((with_reducible refine Ok.isi_tup (p := true) ?_ ?_); decide +kernel) | ((with_reducible refine Ok.isi_tup (p := false) ?_ ?_); decide +kernel) | ((with_reducible refine Ok.isi_int (p := true) ?_ ?_); decide +kernel) | ((with_reducible refine Ok.isi_int (p := false) ?_ ?_); decide +kernel) | ((with_reducible refine Ok.isi_str (p := true) ?_ ?_); decide +kernel) | ((with_reducible refine Ok.isi_str (p := false) ?_ ?_); decide +kernel) | ((with_reducible refine Ok.isi_lst (p := true) ?_ ?_); decide +kernel) | ((with_reducible refine Ok.isi_lst (p := false) ?_ ?_); decide +kernel) | ((with_reducible refine Ok.isi_bl (p := true) ?_ ?_); decide +kernel) | ((with_reducible refine Ok.isi_bl (p := false) ?_ ?_); decide +kernel) | ((with_reducible refine Ok.isi_non (p := true) ?_ ?_); decide +kernel) | ((with_reducible refine Ok.isi_non (p := false) ?_ ?_); decide +kernel) | ((with_reducible refine Ok.isi_ctu (p := true) ?_ ?_); decide +kernel) | ((with_reducible refine Ok.isi_ctu (p := false) ?_ ?_); decide +kernel) | ((with_reducible refine Ok.isi_emp (p := true) ?_ ?_); decide +kernel) | ((with_reducible refine Ok.isi_emp (p := false) ?_ ?_); decide +kernel) | (with_reducible refine Ok.disp ?_)))
section
variable {S0 : Store} {o b a : Nat} {size : Int} {deep : Str} {ks : List Str} {s : St} {l : D} {i : Int}
/-- the store with this machine -/
def stM (S0 : Store) (o b a : Nat) (l : D) (s : St) : Store := S0.set o (some (.ins "Machine" (mf b s l a)))
theorem come_in (m : Mch S0 o b a size deep ks) (h2 : 2 ≤ s.lv.length) (h6 : s.lv.length ≤ 6) : Ok (F_Machine_come_in [.ob o, .int i] (S0.set o (some (.ins "Machine" (mf b s l a))))) fun d S' => d = .non ∧ S' = S0.set o (some (.ins "Machine" (mf b (s.come i) l a))) := by
  have lt := m.lt
  with_reducible refine Ok.def_ ?_
  simp only [frame0, List.map_cons, List.map_nil, List.length_cons, List.length_nil, Nat.reduceAdd, Nat.reduceSub, Nat.zero_add, List.reduceReplicate, List.cons_append, List.nil_append]
  unfold B_Machine_come_in
  and_intros
  refine Br.spd (fun c => ?_) (fun c => ?_)
  · and_intros
    exact ⟨rfl, by simp only [St.come, comeL, if_pos c]⟩
  · and_intros
    exact ⟨rfl, by simp only [St.come, comeL, if_neg c]⟩
theorem const_ {x y : D} {S : Store} {Q : D → Store → Prop} (h : Q y S) : Ok (F_Whole_constant [x, y] S) Q := by
  with_reducible refine Ok.def_ ?_
  simp only [frame0, List.map_cons, List.map_nil, List.length_cons, List.length_nil, Nat.reduceAdd, Nat.reduceSub, Nat.zero_add, List.reduceReplicate, List.cons_append, List.nil_append]
  unfold B_Whole_constant
  and_intros
  exact h
theorem plus_ {x : D} {i j : Int} {S : Store} {Q : D → Store → Prop} (h : Q (.int (i + j)) S) : Ok (F_Whole_plus [x, .int i, .int j] S) Q := by
  with_reducible refine Ok.def_ ?_
  simp only [frame0, List.map_cons, List.map_nil, List.length_cons, List.length_nil, Nat.reduceAdd, Nat.reduceSub, Nat.zero_add, List.reduceReplicate, List.cons_append, List.nil_append]
  unfold B_Whole_plus
  and_intros
  exact h
theorem minus_ {x : D} {i j : Int} {S : Store} {Q : D → Store → Prop} (h : Q (.int (i - j)) S) : Ok (F_Whole_minus [x, .int i, .int j] S) Q := by
  with_reducible refine Ok.def_ ?_
  simp only [frame0, List.map_cons, List.map_nil, List.length_cons, List.length_nil, Nat.reduceAdd, Nat.reduceSub, Nat.zero_add, List.reduceReplicate, List.cons_append, List.nil_append]
  unfold B_Whole_minus
  and_intros
  exact h
theorem times_ {x : D} {i j : Int} {B : Nat} {S : Store} {Q : D → Store → Prop} (hi : i.natAbs < 10 ^ B) (hj : j.natAbs < 10 ^ B) (hB : B ≤ 10000) (h : Q (.int (i * j)) S) : Ok (F_Whole_times [x, .int i, .int j] S) Q := by
  with_reducible refine Ok.def_ ?_
  simp only [frame0, List.map_cons, List.map_nil, List.length_cons, List.length_nil, Nat.reduceAdd, Nat.reduceSub, Nat.zero_add, List.reduceReplicate, List.cons_append, List.nil_append]
  unfold B_Whole_times
  and_intros
  have e : ∀ n : Nat, n < 10 ^ B → n < 2 ^ (4 * B + 1) := fun n hn => by
    refine Nat.lt_of_lt_of_le hn ?_
    rw [Nat.pow_succ, Nat.pow_mul]
    exact Nat.le_trans (Nat.pow_le_pow_left (by decide) B) (Nat.le_mul_of_pos_right _ (by decide))
  with_reducible refine Ok.mul_ii (e _ hi) (e _ hj) ?_ ?_ ?_ ?_
  · omega
  · omega
  · omega
  and_intros
  exact h
local macro_rules | `(tactic| and_intros) => `(tactic| repeat (first | ((with_reducible refine Ok.fldM ?_ ?_ ?_); (assumption); (exact c_M); (first | refine ⟨_, g_stack, ?_⟩ | refine ⟨_, g_kept, ?_⟩ | refine ⟨_, g_store, ?_⟩ | refine ⟨_, g_way, ?_⟩ | refine ⟨_, g_keyed, ?_⟩ | refine ⟨_, g_arith, ?_⟩ | refine ⟨_, g_rules, ?_⟩)) | ((with_reducible refine Ok.setM ?_ ?_ ?_ ?_); (assumption); (exact c_M); (exact mf_len); (first | refine ⟨_, p_stack, ?_⟩ | refine ⟨_, p_kept, ?_⟩ | refine ⟨_, p_store, ?_⟩ | refine ⟨_, p_way, ?_⟩)) | with_reducible refine Ok.sl_d1 ?_ | with_reducible refine Ok.sl_d2 ?_ | with_reducible refine Ok.sl_t1 ?_ | with_reducible refine Ok.sl_dl ?_ | with_reducible refine Ok.sl_l1 ?_ | ((with_reducible refine Ok.ad_1m ?_ ?_); (simp; omega)) | ((with_reducible refine Ok.ad_2m ?_ ?_); (simp; omega)) | ((with_reducible refine Ok.ad_m1 ?_ ?_); (simp; omega)) | ((with_reducible refine Ok.ad_mm ?_ ?_); (simp; omega)) | ((with_reducible refine Ok.ixm0 ?_ ?_); (omega)) | ((with_reducible refine Ok.ixm1 ?_ ?_); (omega)) | ((with_reducible refine Ok.ixm9 ?_ ?_); (omega)) | with_reducible refine const_ ?_ | with_reducible refine plus_ ?_ | with_reducible refine minus_ ?_ | with_reducible refine Ok.mtd1 ?_ | with_reducible refine Ok.prp1 ?_ | refine ⟨_, _, rfl, (List.getElem?_set_ne (by assumption)).trans (by assumption), rfl, ?_⟩ | refine ⟨_, _, rfl, List.getElem?_set_self (by assumption), rfl, ?_⟩ | with_reducible refine Ok.sli_tail ?_ | ((with_reducible refine Ok.var ?_); refine ⟨_, rfl, ?_⟩) | ((with_reducible refine Fr.go ?_); intro fr_ e_; simp only [List.set_cons_zero, List.set_cons_succ, setAll, wipeF] at e_; subst e_) | with_reducible refine Ok.bin ?_ | with_reducible refine Ok.calp ?_ | with_reducible refine Ok.cal ?_ | with_reducible refine Ok.cst ?_ | with_reducible refine Ok.acons ?_ | with_reducible refine Ok.anil ?_ | with_reducible refine Ok.un ?_ | with_reducible refine Ok.tb ?_ | with_reducible refine Ok.tsb ?_ | with_reducible refine OkS.seq ?_ | with_reducible refine OkS.asg ?_ | with_reducible refine Then.nx ?_ | with_reducible refine Then.rt ?_ | with_reducible refine OkS.ifS ?_ | with_reducible refine Ok.notF ?_ | with_reducible refine Ok.andF ?_ | with_reducible refine Ok.orF ?_ | with_reducible refine Ok.ite ?_ | with_reducible refine Br.t ?_ | with_reducible refine Br.f ?_ | with_reducible refine Br.not ?_ | ((with_reducible refine OkS.aug ?_); refine ⟨_, rfl, ?_⟩) | ((with_reducible refine Ok.ix_t ?_); refine ⟨_, rfl, ?_⟩) | ((with_reducible refine Ok.ix_l ?_); refine ⟨_, rfl, ?_⟩) | ((with_reducible refine Ok.tgT ?_ ?_); exact rfl) | with_reducible refine Ok.tup ?_ | with_reducible refine Ok.lst ?_ | with_reducible refine Ok.lstO ?_ | with_reducible refine Ok.tst ?_ | with_reducible refine Ok.tru_bl ?_ | with_reducible refine Ok.tru_non ?_ | with_reducible refine Ok.tru_tup ?_ | with_reducible refine Ok.tru_lst ?_ | with_reducible refine Ok.tru_int ?_ | with_reducible refine Ok.boolF ?_ | with_reducible refine Ok.andV ?_ | with_reducible refine Ok.orV ?_ | with_reducible refine Ok.notV ?_ | with_reducible refine Ok.yes ?_ | with_reducible refine Ok.prtN ?_ | with_reducible refine Ok.prtS ?_ | with_reducible refine Ok.sli ?_ | with_reducible refine Ok.chF ?_ | with_reducible refine Ok.exi ?_ | with_reducible refine Ok.exb ?_ | with_reducible refine Ok.add_ii ?_ | with_reducible refine Ok.sub_ii ?_ | with_reducible refine Ok.neg_i ?_ | with_reducible refine Ok.lt_ii ?_ | with_reducible refine Ok.le_ii ?_ | with_reducible refine Ok.gt_ii ?_ | with_reducible refine Ok.ge_ii ?_ | with_reducible refine Ok.eq_ii ?_ | with_reducible refine Ok.ne_ii ?_ | with_reducible refine Ok.eq_ss ?_ | with_reducible refine Ok.ne_ss ?_ | with_reducible refine Ok.in_ss ?_ | with_reducible refine Ok.nin_ss ?_ | with_reducible refine Ok.is_nn ?_ | with_reducible refine Ok.int_i ?_ | with_reducible refine Ok.int_b ?_ | with_reducible refine Ok.str_s ?_ | with_reducible refine Ok.max_ii ?_ | with_reducible refine Ok.min_ii ?_ | with_reducible refine Ok.len_t ?_ | with_reducible refine Ok.len_l ?_ | with_reducible refine Ok.tup_t ?_ | with_reducible refine Ok.tup_l ?_ | with_reducible refine Ok.lst_t ?_ | with_reducible refine Ok.lst_l ?_ | with_reducible refine Ok.sli_t ?_ | with_reducible refine Ok.sli_l ?_ | with_reducible refine OkS.ret ?_ | with_reducible refine OkS.retN ?_ | with_reducible refine OkS.expr ?_ | with_reducible refine OkS.nx ?_ | with_reducible refine OkS.bk ?_ | with_reducible refine OkS.ct ?_ | with_reducible refine Then.bk ?_ | with_reducible refine Then.ct ?_ | with_reducible refine Rt.rt ?_ | with_reducible refine Rt.nx ?_ | with_reducible refine Lp.nx ?_ | with_reducible refine Lp.ct ?_ | with_reducible refine Lp.bk ?_ | with_reducible refine Lp.rt ?_ | with_reducible refine OkS.asgG ?_ | with_reducible refine OkS.par ?_ | with_reducible refine Ok.iadd_ii ?_ | with_reducible refine Ok.isub_ii ?_ | with_reducible refine Ok.tgN ?_ | with_reducible refine Ok.tgA0 ?_ | with_reducible refine Ok.tgA ?_ | with_reducible refine Ok.tgSub ?_ | with_reducible refine Ok.rngF ?_ | with_reducible refine Ok.cmpD ?_ | with_reducible refine Ok.cmpO ?_ | with_reducible refine Ok.ret ?_ | with_reducible refine Ok.ok ?_ | with_reducible refine Ok.newO ?_ | with_reducible refine Ok.bnd ?_ | with_reducible refine OkS.fore ?_ | with_reducible refine Ok.cmpe ?_ | with_reducible refine Ok.itT ?_ | with_reducible refine ItQ.tup ?_ | with_reducible refine ItQ.lst ?_ | with_reducible refine ItQ.ctu ?_ | with_reducible refine SrcQ.con ?_ | with_reducible refine SrcQ.tup ?_ | with_reducible refine SrcQ.lst ?_ | with_reducible refine SrcQ.ctu ?_ | ((with_reducible refine Ok.mod_ii ?_ ?_); (first | decide | (simp; done) | (simp; omega))) | ((with_reducible refine Ok.add_tt ?_ ?_); (first | decide | (simp; done) | (simp; omega))) | ((with_reducible refine Ok.add_ll ?_ ?_); (first | decide | (simp; done) | (simp; omega))) | ((with_reducible refine Ok.add_ss ?_ ?_); (first | decide | (simp; done) | (simp; omega))) | ((with_reducible refine Ok.rng1 ?_ ?_); (first | decide | omega | (simp; omega))) | ((with_reducible refine Br.dt ?_ ?_); (first | assumption | exact rfl | omega | decide +kernel)) | ((with_reducible refine Br.df ?_ ?_); (first | assumption | omega | decide +kernel)) | ((with_reducible refine Br.tt ?_ ?_); (first | assumption | decide +kernel)) | ((with_reducible refine Br.ff ?_ ?_); (first | assumption | decide +kernel)) | with_reducible refine Ok.is_in ?_ | with_reducible refine Ok.is_tn ?_ | with_reducible refine Ok.is_bn ?_ | with_reducible refine Ok.is_sn ?_ | with_reducible refine Ok.nis_in ?_ | with_reducible refine Ok.nis_tn ?_ | with_reducible refine Ok.nis_bn ?_ | with_reducible refine Ok.nis_sn ?_ | with_reducible refine OkS.lcons ?_ | with_reducible refine OkS.lnil ?_ | with_reducible refine Ok.icons ?_ | with_reducible refine Ok.inil ?_ | with_reducible refine Ok.is_bb ?_ | with_reducible refine Ok.nis_bb ?_ | with_reducible refine Ok.nis_nn ?_ | with_reducible refine Ok.pcons ?_ | with_reducible refine Ok.pnil ?_ | with_reducible refine Ok.dctK ?_ | with_reducible refine Ok.tgDic ?_ | with_reducible refine Ok.fld ?_ | with_reducible refine Ok.tgAtt ?_ | with_reducible refine Ok.makO ?_ | ((with_reducible refine Ok.isi_tup (p := true) ?_ ?_); decide +kernel) | ((with_reducible refine Ok.isi_tup (p := false) ?_ ?_); decide +kernel) | ((with_reducible refine Ok.isi_int (p := true) ?_ ?_); decide +kernel) | ((with_reducible refine Ok.isi_int (p := false) ?_ ?_); decide +kernel) | ((with_reducible refine Ok.isi_str (p := true) ?_ ?_); decide +kernel) | ((with_reducible refine Ok.isi_str (p := false) ?_ ?_); decide +kernel) | ((with_reducible refine Ok.isi_lst (p := true) ?_ ?_); decide +kernel) | ((with_reducible refine Ok.isi_lst (p := false) ?_ ?_); decide +kernel) | ((with_reducible refine Ok.isi_bl (p := true) ?_ ?_); decide +kernel) | ((with_reducible refine Ok.isi_bl (p := false) ?_ ?_); decide +kernel) | ((with_reducible refine Ok.isi_non (p := true) ?_ ?_); decide +kernel) | ((with_reducible refine Ok.isi_non (p := false) ?_ ?_); decide +kernel) | ((with_reducible refine Ok.isi_ctu (p := true) ?_ ?_); decide +kernel) | ((with_reducible refine Ok.isi_ctu (p := false) ?_ ?_); decide +kernel) | ((with_reducible refine Ok.isi_emp (p := true) ?_ ?_); decide +kernel) | ((with_reducible refine Ok.isi_emp (p := false) ?_ ?_); decide +kernel) | (with_reducible refine Ok.disp ?_)))
theorem press_digit (m : Mch S0 o b a size deep ks) (h2 : 2 ≤ s.lv.length) (h6 : s.lv.length ≤ 6) {B : Nat} (hB2 : 2 ≤ B) (hB : B ≤ 9000) (hx : (s.lv.getD 0 0).natAbs < 10 ^ B) (n : Fin 10) : Ok (F_Machine_press_digit [.ob o, .int ((n.val : Nat) : Int)] (S0.set o (some (.ins "Machine" (mf b s l a))))) fun d S' => d = .non ∧ S' = S0.set o (some (.ins "Machine" (mf b (pressS deep x (.dig n) s) l a))) := by
  have lt := m.lt
  have na := m.na
  have ar := m.ar
  with_reducible refine Ok.def_ ?_
  simp only [frame0, List.map_cons, List.map_nil, List.length_cons, List.length_nil, Nat.reduceAdd, Nat.reduceSub, Nat.zero_add, List.reduceReplicate, List.cons_append, List.nil_append]
  unfold B_Machine_press_digit
  and_intros
  refine Br.spd (fun c => ?_) (fun c => ?_)
  · and_intros
    refine times_ (B := B) (Nat.lt_of_lt_of_le (by decide : _ < 10 ^ 2) (Nat.pow_le_pow_right (by decide) hB2)) hx (by omega) ?_
    and_intros
    exact ⟨rfl, by simp only [pressS, if_pos c]⟩
  · and_intros
    refine (come_in m h2 h6).imp ?_
    rintro d S' ⟨rfl, rfl⟩
    and_intros
    exact ⟨rfl, by simp only [pressS, if_neg c, St.come]⟩
theorem keeps_ {S : Store} {Q : D → Store → Prop} (hb : S[b]? = some (some (.ins "Box" (bf size deep ks)))) (h : Q (.tup (ks.map .str)) S) : Ok (F_Box_keeps [.ob b] S) Q := by
  with_reducible refine Ok.def_ ?_
  simp only [frame0, List.map_cons, List.map_nil, List.length_cons, List.length_nil, Nat.reduceAdd, Nat.reduceSub, Nat.zero_add, List.reduceReplicate, List.cons_append, List.nil_append]
  unfold B_Box_keeps
  and_intros
  refine Ok.fldD hb c_B g_br ?_
  and_intros
  exact h
theorem deepest_ {S : Store} {Q : D → Store → Prop} (hb : S[b]? = some (some (.ins "Box" (bf size deep ks)))) (h : Q (.str deep) S) : Ok (F_Box_deepest [.ob b] S) Q := by
  with_reducible refine Ok.def_ ?_
  simp only [frame0, List.map_cons, List.map_nil, List.length_cons, List.length_nil, Nat.reduceAdd, Nat.reduceSub, Nat.zero_add, List.reduceReplicate, List.cons_append, List.nil_append]
  unfold B_Box_deepest
  and_intros
  refine Ok.fldD hb c_B g_br ?_
  and_intros
  exact h
local macro_rules | `(tactic| and_intros) => `(tactic| repeat (first | ((with_reducible refine Ok.fldM ?_ ?_ ?_); (assumption); (exact c_M); (first | refine ⟨_, g_stack, ?_⟩ | refine ⟨_, g_kept, ?_⟩ | refine ⟨_, g_store, ?_⟩ | refine ⟨_, g_way, ?_⟩ | refine ⟨_, g_keyed, ?_⟩ | refine ⟨_, g_arith, ?_⟩ | refine ⟨_, g_rules, ?_⟩)) | ((with_reducible refine Ok.setM ?_ ?_ ?_ ?_); (assumption); (exact c_M); (exact mf_len); (first | refine ⟨_, p_stack, ?_⟩ | refine ⟨_, p_kept, ?_⟩ | refine ⟨_, p_store, ?_⟩ | refine ⟨_, p_way, ?_⟩)) | with_reducible refine Ok.sl_d1 ?_ | with_reducible refine Ok.sl_d2 ?_ | with_reducible refine Ok.sl_t1 ?_ | with_reducible refine Ok.sl_dl ?_ | with_reducible refine Ok.sl_l1 ?_ | ((with_reducible refine Ok.ad_1m ?_ ?_); (simp; omega)) | ((with_reducible refine Ok.ad_2m ?_ ?_); (simp; omega)) | ((with_reducible refine Ok.ad_m1 ?_ ?_); (simp; omega)) | ((with_reducible refine Ok.ad_mm ?_ ?_); (simp; omega)) | ((with_reducible refine Ok.ixm0 ?_ ?_); (omega)) | ((with_reducible refine Ok.ixm1 ?_ ?_); (omega)) | ((with_reducible refine Ok.ixm9 ?_ ?_); (omega)) | with_reducible refine const_ ?_ | with_reducible refine plus_ ?_ | with_reducible refine minus_ ?_ | with_reducible refine Ok.mtd1 ?_ | with_reducible refine Ok.prp1 ?_ | refine ⟨_, _, rfl, (List.getElem?_set_ne (by assumption)).trans (by assumption), rfl, ?_⟩ | refine ⟨_, _, rfl, List.getElem?_set_self (by assumption), rfl, ?_⟩ | refine ⟨_, _, rfl, (List.getElem?_set_ne (by assumption)).trans (by assumption), ?_⟩ | with_reducible refine deepest_ ((List.getElem?_set_ne (by assumption)).trans (by assumption)) ?_ | with_reducible refine keeps_ ((List.getElem?_set_ne (by assumption)).trans (by assumption)) ?_ | with_reducible refine Ok.sli_tail ?_ | ((with_reducible refine Ok.var ?_); refine ⟨_, rfl, ?_⟩) | ((with_reducible refine Fr.go ?_); intro fr_ e_; simp only [List.set_cons_zero, List.set_cons_succ, setAll, wipeF] at e_; subst e_) | with_reducible refine Ok.bin ?_ | with_reducible refine Ok.calp ?_ | with_reducible refine Ok.cal ?_ | with_reducible refine Ok.cst ?_ | with_reducible refine Ok.acons ?_ | with_reducible refine Ok.anil ?_ | with_reducible refine Ok.un ?_ | with_reducible refine Ok.tb ?_ | with_reducible refine Ok.tsb ?_ | with_reducible refine OkS.seq ?_ | with_reducible refine OkS.asg ?_ | with_reducible refine Then.nx ?_ | with_reducible refine Then.rt ?_ | with_reducible refine OkS.ifS ?_ | with_reducible refine Ok.notF ?_ | with_reducible refine Ok.andF ?_ | with_reducible refine Ok.orF ?_ | with_reducible refine Ok.ite ?_ | with_reducible refine Br.t ?_ | with_reducible refine Br.f ?_ | with_reducible refine Br.not ?_ | ((with_reducible refine OkS.aug ?_); refine ⟨_, rfl, ?_⟩) | ((with_reducible refine Ok.ix_t ?_); refine ⟨_, rfl, ?_⟩) | ((with_reducible refine Ok.ix_l ?_); refine ⟨_, rfl, ?_⟩) | ((with_reducible refine Ok.tgT ?_ ?_); exact rfl) | with_reducible refine Ok.tup ?_ | with_reducible refine Ok.lst ?_ | with_reducible refine Ok.lstO ?_ | with_reducible refine Ok.tst ?_ | with_reducible refine Ok.tru_bl ?_ | with_reducible refine Ok.tru_non ?_ | with_reducible refine Ok.tru_tup ?_ | with_reducible refine Ok.tru_lst ?_ | with_reducible refine Ok.tru_int ?_ | with_reducible refine Ok.boolF ?_ | with_reducible refine Ok.andV ?_ | with_reducible refine Ok.orV ?_ | with_reducible refine Ok.notV ?_ | with_reducible refine Ok.yes ?_ | with_reducible refine Ok.prtN ?_ | with_reducible refine Ok.prtS ?_ | with_reducible refine Ok.sli ?_ | with_reducible refine Ok.chF ?_ | with_reducible refine Ok.exi ?_ | with_reducible refine Ok.exb ?_ | with_reducible refine Ok.add_ii ?_ | with_reducible refine Ok.sub_ii ?_ | with_reducible refine Ok.neg_i ?_ | with_reducible refine Ok.lt_ii ?_ | with_reducible refine Ok.le_ii ?_ | with_reducible refine Ok.gt_ii ?_ | with_reducible refine Ok.ge_ii ?_ | with_reducible refine Ok.eq_ii ?_ | with_reducible refine Ok.ne_ii ?_ | with_reducible refine Ok.eq_ss ?_ | with_reducible refine Ok.ne_ss ?_ | with_reducible refine Ok.in_ss ?_ | with_reducible refine Ok.nin_ss ?_ | with_reducible refine Ok.is_nn ?_ | with_reducible refine Ok.int_i ?_ | with_reducible refine Ok.int_b ?_ | with_reducible refine Ok.str_s ?_ | with_reducible refine Ok.max_ii ?_ | with_reducible refine Ok.min_ii ?_ | with_reducible refine Ok.len_t ?_ | with_reducible refine Ok.len_l ?_ | with_reducible refine Ok.tup_t ?_ | with_reducible refine Ok.tup_l ?_ | with_reducible refine Ok.lst_t ?_ | with_reducible refine Ok.lst_l ?_ | with_reducible refine Ok.sli_t ?_ | with_reducible refine Ok.sli_l ?_ | with_reducible refine OkS.ret ?_ | with_reducible refine OkS.retN ?_ | with_reducible refine OkS.expr ?_ | with_reducible refine OkS.nx ?_ | with_reducible refine OkS.bk ?_ | with_reducible refine OkS.ct ?_ | with_reducible refine Then.bk ?_ | with_reducible refine Then.ct ?_ | with_reducible refine Rt.rt ?_ | with_reducible refine Rt.nx ?_ | with_reducible refine Lp.nx ?_ | with_reducible refine Lp.ct ?_ | with_reducible refine Lp.bk ?_ | with_reducible refine Lp.rt ?_ | with_reducible refine OkS.asgG ?_ | with_reducible refine OkS.par ?_ | with_reducible refine Ok.iadd_ii ?_ | with_reducible refine Ok.isub_ii ?_ | with_reducible refine Ok.tgN ?_ | with_reducible refine Ok.tgA0 ?_ | with_reducible refine Ok.tgA ?_ | with_reducible refine Ok.tgSub ?_ | with_reducible refine Ok.rngF ?_ | with_reducible refine Ok.cmpD ?_ | with_reducible refine Ok.cmpO ?_ | with_reducible refine Ok.ret ?_ | with_reducible refine Ok.ok ?_ | with_reducible refine Ok.newO ?_ | with_reducible refine Ok.bnd ?_ | with_reducible refine OkS.fore ?_ | with_reducible refine Ok.cmpe ?_ | with_reducible refine Ok.itT ?_ | with_reducible refine ItQ.tup ?_ | with_reducible refine ItQ.lst ?_ | with_reducible refine ItQ.ctu ?_ | with_reducible refine SrcQ.con ?_ | with_reducible refine SrcQ.tup ?_ | with_reducible refine SrcQ.lst ?_ | with_reducible refine SrcQ.ctu ?_ | ((with_reducible refine Ok.mod_ii ?_ ?_); (first | decide | (simp; done) | (simp; omega))) | ((with_reducible refine Ok.add_tt ?_ ?_); (first | decide | (simp; done) | (simp; omega))) | ((with_reducible refine Ok.add_ll ?_ ?_); (first | decide | (simp; done) | (simp; omega))) | ((with_reducible refine Ok.add_ss ?_ ?_); (first | decide | (simp; done) | (simp; omega))) | ((with_reducible refine Ok.rng1 ?_ ?_); (first | decide | omega | (simp; omega))) | ((with_reducible refine Br.dt ?_ ?_); (first | assumption | exact rfl | omega | decide +kernel)) | ((with_reducible refine Br.df ?_ ?_); (first | assumption | omega | decide +kernel)) | ((with_reducible refine Br.tt ?_ ?_); (first | assumption | decide +kernel)) | ((with_reducible refine Br.ff ?_ ?_); (first | assumption | decide +kernel)) | with_reducible refine Ok.is_in ?_ | with_reducible refine Ok.is_tn ?_ | with_reducible refine Ok.is_bn ?_ | with_reducible refine Ok.is_sn ?_ | with_reducible refine Ok.nis_in ?_ | with_reducible refine Ok.nis_tn ?_ | with_reducible refine Ok.nis_bn ?_ | with_reducible refine Ok.nis_sn ?_ | with_reducible refine OkS.lcons ?_ | with_reducible refine OkS.lnil ?_ | with_reducible refine Ok.icons ?_ | with_reducible refine Ok.inil ?_ | with_reducible refine Ok.is_bb ?_ | with_reducible refine Ok.nis_bb ?_ | with_reducible refine Ok.nis_nn ?_ | with_reducible refine Ok.pcons ?_ | with_reducible refine Ok.pnil ?_ | with_reducible refine Ok.dctK ?_ | with_reducible refine Ok.tgDic ?_ | with_reducible refine Ok.fld ?_ | with_reducible refine Ok.tgAtt ?_ | with_reducible refine Ok.makO ?_ | ((with_reducible refine Ok.isi_tup (p := true) ?_ ?_); decide +kernel) | ((with_reducible refine Ok.isi_tup (p := false) ?_ ?_); decide +kernel) | ((with_reducible refine Ok.isi_int (p := true) ?_ ?_); decide +kernel) | ((with_reducible refine Ok.isi_int (p := false) ?_ ?_); decide +kernel) | ((with_reducible refine Ok.isi_str (p := true) ?_ ?_); decide +kernel) | ((with_reducible refine Ok.isi_str (p := false) ?_ ?_); decide +kernel) | ((with_reducible refine Ok.isi_lst (p := true) ?_ ?_); decide +kernel) | ((with_reducible refine Ok.isi_lst (p := false) ?_ ?_); decide +kernel) | ((with_reducible refine Ok.isi_bl (p := true) ?_ ?_); decide +kernel) | ((with_reducible refine Ok.isi_bl (p := false) ?_ ?_); decide +kernel) | ((with_reducible refine Ok.isi_non (p := true) ?_ ?_); decide +kernel) | ((with_reducible refine Ok.isi_non (p := false) ?_ ?_); decide +kernel) | ((with_reducible refine Ok.isi_ctu (p := true) ?_ ?_); decide +kernel) | ((with_reducible refine Ok.isi_ctu (p := false) ?_ ?_); decide +kernel) | ((with_reducible refine Ok.isi_emp (p := true) ?_ ?_); decide +kernel) | ((with_reducible refine Ok.isi_emp (p := false) ?_ ?_); decide +kernel) | (with_reducible refine Ok.disp ?_)))
def bnds (B : Nat) (s : St) : Prop := (∀ x ∈ s.lv, Int.natAbs x < 10 ^ B) ∧ Int.natAbs s.kp < 10 ^ B ∧ Int.natAbs s.mem < 10 ^ B
theorem getD_bnd {B : Nat} {l : List Int} {k : Nat} (h : ∀ x ∈ l, Int.natAbs x < 10 ^ B) : Int.natAbs (l.getD k 0) < 10 ^ B := by
  rw [List.getD_eq_getElem?_getD]
  by_cases hk : k < l.length
  · rw [List.getElem?_eq_getElem hk]; exact h _ (List.getElem_mem hk)
  · rw [List.getElem?_eq_none (by omega)]; exact Nat.pow_pos (by decide)
theorem press_sign (m : Mch S0 o b a size deep ks) (h2 : 2 ≤ s.lv.length) (h6 : s.lv.length ≤ 6) {B : Nat} (hB : B ≤ 9000) (hx : bnds B s) : ∀ k : Ky, k = .plus ∨ k = .minus ∨ k = .times → Ok (F_Machine_press_sign [.ob o, .str k.s] (S0.set o (some (.ins "Machine" (mf b s l a))))) fun d S' => d = .non ∧ S' = S0.set o (some (.ins "Machine" (mf b ⟨(pressS deep x k s).lv, s.kp, s.mem, s.way⟩ l a))) := by
  have lt := m.lt
  have na := m.na
  have nb := m.nb
  have ar := m.ar
  have box := m.box
  intro k hk
  rcases hk with rfl | rfl | rfl
  · show Ok (F_Machine_press_sign [.ob o, .str "+"] _) _
    with_reducible refine Ok.def_ ?_
    simp only [frame0, List.map_cons, List.map_nil, List.length_cons, List.length_nil, Nat.reduceAdd, Nat.reduceSub, Nat.zero_add, List.reduceReplicate, List.cons_append, List.nil_append]
    unfold B_Machine_press_sign
    and_intros
    refine Br.spd (fun c => ?_) (fun c => ?_)
    · and_intros
      exact ⟨rfl, by simp only [pressS, if_pos c, List.cons_append]⟩
    · and_intros
      exact ⟨rfl, by simp only [pressS, if_neg c, List.cons_append]⟩
  · show Ok (F_Machine_press_sign [.ob o, .str "-"] _) _
    with_reducible refine Ok.def_ ?_
    simp only [frame0, List.map_cons, List.map_nil, List.length_cons, List.length_nil, Nat.reduceAdd, Nat.reduceSub, Nat.zero_add, List.reduceReplicate, List.cons_append, List.nil_append]
    unfold B_Machine_press_sign
    and_intros
    refine Br.spd (fun c => ?_) (fun c => ?_)
    · and_intros
      exact ⟨rfl, by simp only [pressS, if_pos c, List.cons_append]⟩
    · and_intros
      exact ⟨rfl, by simp only [pressS, if_neg c, List.cons_append]⟩
  · show Ok (F_Machine_press_sign [.ob o, .str "*"] _) _
    with_reducible refine Ok.def_ ?_
    simp only [frame0, List.map_cons, List.map_nil, List.length_cons, List.length_nil, Nat.reduceAdd, Nat.reduceSub, Nat.zero_add, List.reduceReplicate, List.cons_append, List.nil_append]
    unfold B_Machine_press_sign
    and_intros
    refine times_ (getD_bnd hx.1) (getD_bnd hx.1) (by omega) ?_
    and_intros
    refine Br.spd (fun c => ?_) (fun c => ?_)
    · and_intros
      exact ⟨rfl, by simp only [pressS, if_pos c, List.cons_append]⟩
    · and_intros
      exact ⟨rfl, by simp only [pressS, if_neg c, List.cons_append]⟩
theorem press_mover (m : Mch S0 o b a size deep ks) (h2 : 2 ≤ s.lv.length) (h6 : s.lv.length ≤ 6) : ∀ k : Ky, k = .swap ∨ k = .down ∨ k = .up ∨ k = .last ∨ k = .put ∨ k = .get → Ok (F_Machine_press_mover [.ob o, .str k.s] (S0.set o (some (.ins "Machine" (mf b s l a))))) fun d S' => d = .non ∧ S' = S0.set o (some (.ins "Machine" (mf b ⟨(pressS deep x k s).lv, s.kp, (pressS deep x k s).mem, s.way⟩ l a))) := by
  have lt := m.lt
  have na := m.na
  have nb := m.nb
  have ar := m.ar
  have box := m.box
  intro k hk
  rcases hk with rfl | rfl | rfl | rfl | rfl | rfl
  · show Ok (F_Machine_press_mover [.ob o, .str "swap"] _) _
    with_reducible refine Ok.def_ ?_
    simp only [frame0, List.map_cons, List.map_nil, List.length_cons, List.length_nil, Nat.reduceAdd, Nat.reduceSub, Nat.zero_add, List.reduceReplicate, List.cons_append, List.nil_append]
    unfold B_Machine_press_mover
    and_intros
    exact ⟨rfl, rfl⟩
  · show Ok (F_Machine_press_mover [.ob o, .str "down"] _) _
    with_reducible refine Ok.def_ ?_
    simp only [frame0, List.map_cons, List.map_nil, List.length_cons, List.length_nil, Nat.reduceAdd, Nat.reduceSub, Nat.zero_add, List.reduceReplicate, List.cons_append, List.nil_append]
    unfold B_Machine_press_mover
    and_intros
    exact ⟨rfl, rfl⟩
  · show Ok (F_Machine_press_mover [.ob o, .str "up"] _) _
    with_reducible refine Ok.def_ ?_
    simp only [frame0, List.map_cons, List.map_nil, List.length_cons, List.length_nil, Nat.reduceAdd, Nat.reduceSub, Nat.zero_add, List.reduceReplicate, List.cons_append, List.nil_append]
    unfold B_Machine_press_mover
    and_intros
    exact ⟨rfl, rfl⟩
  · show Ok (F_Machine_press_mover [.ob o, .str "last"] _) _
    with_reducible refine Ok.def_ ?_
    simp only [frame0, List.map_cons, List.map_nil, List.length_cons, List.length_nil, Nat.reduceAdd, Nat.reduceSub, Nat.zero_add, List.reduceReplicate, List.cons_append, List.nil_append]
    unfold B_Machine_press_mover
    and_intros
    refine (come_in m h2 h6).imp ?_
    rintro d S' ⟨rfl, rfl⟩
    and_intros
    exact ⟨rfl, rfl⟩
  · show Ok (F_Machine_press_mover [.ob o, .str "put"] _) _
    with_reducible refine Ok.def_ ?_
    simp only [frame0, List.map_cons, List.map_nil, List.length_cons, List.length_nil, Nat.reduceAdd, Nat.reduceSub, Nat.zero_add, List.reduceReplicate, List.cons_append, List.nil_append]
    unfold B_Machine_press_mover
    and_intros
    exact ⟨rfl, rfl⟩
  · show Ok (F_Machine_press_mover [.ob o, .str "get"] _) _
    with_reducible refine Ok.def_ ?_
    simp only [frame0, List.map_cons, List.map_nil, List.length_cons, List.length_nil, Nat.reduceAdd, Nat.reduceSub, Nat.zero_add, List.reduceReplicate, List.cons_append, List.nil_append]
    unfold B_Machine_press_mover
    and_intros
    refine (come_in m h2 h6).imp ?_
    rintro d S' ⟨rfl, rfl⟩
    and_intros
    exact ⟨rfl, rfl⟩
end
end DL.Lb
namespace DL.Lb
open PySem PySem.Spec PyProof.Rows L2 DL
local macro_rules | `(tactic| and_intros) => `(tactic| repeat (first | ((with_reducible refine Ok.fldM ?_ ?_ ?_); (assumption); (exact c_M); (first | refine ⟨_, g_stack, ?_⟩ | refine ⟨_, g_kept, ?_⟩ | refine ⟨_, g_store, ?_⟩ | refine ⟨_, g_way, ?_⟩ | refine ⟨_, g_keyed, ?_⟩ | refine ⟨_, g_arith, ?_⟩ | refine ⟨_, g_rules, ?_⟩)) | ((with_reducible refine Ok.setM ?_ ?_ ?_ ?_); (assumption); (exact c_M); (exact mf_len); (first | refine ⟨_, p_stack, ?_⟩ | refine ⟨_, p_kept, ?_⟩ | refine ⟨_, p_store, ?_⟩ | refine ⟨_, p_way, ?_⟩)) | with_reducible refine Ok.sl_d1 ?_ | with_reducible refine Ok.sl_d2 ?_ | with_reducible refine Ok.sl_t1 ?_ | with_reducible refine Ok.sl_dl ?_ | with_reducible refine Ok.sl_l1 ?_ | ((with_reducible refine Ok.ad_1m ?_ ?_); (simp; omega)) | ((with_reducible refine Ok.ad_2m ?_ ?_); (simp; omega)) | ((with_reducible refine Ok.ad_m1 ?_ ?_); (simp; omega)) | ((with_reducible refine Ok.ad_mm ?_ ?_); (simp; omega)) | ((with_reducible refine Ok.ixm0 ?_ ?_); (omega)) | ((with_reducible refine Ok.ixm1 ?_ ?_); (omega)) | ((with_reducible refine Ok.ixm9 ?_ ?_); (omega)) | with_reducible refine const_ ?_ | with_reducible refine plus_ ?_ | with_reducible refine minus_ ?_ | with_reducible refine Ok.mtd1 ?_ | with_reducible refine Ok.prp1 ?_ | refine ⟨_, _, rfl, (List.getElem?_set_ne (by assumption)).trans (by assumption), rfl, ?_⟩ | refine ⟨_, _, rfl, List.getElem?_set_self (by assumption), rfl, ?_⟩ | refine ⟨_, _, rfl, (List.getElem?_set_ne (by assumption)).trans (by assumption), ?_⟩ | with_reducible refine deepest_ ((List.getElem?_set_ne (by assumption)).trans (by assumption)) ?_ | with_reducible refine keeps_ ((List.getElem?_set_ne (by assumption)).trans (by assumption)) ?_ | with_reducible refine Ok.sli_tail ?_ | ((with_reducible refine Ok.var ?_); refine ⟨_, rfl, ?_⟩) | ((with_reducible refine Fr.go ?_); intro fr_ e_; simp only [List.set_cons_zero, List.set_cons_succ, setAll, wipeF] at e_; subst e_) | with_reducible refine Ok.bin ?_ | with_reducible refine Ok.calp ?_ | with_reducible refine Ok.cal ?_ | with_reducible refine Ok.cst ?_ | with_reducible refine Ok.acons ?_ | with_reducible refine Ok.anil ?_ | with_reducible refine Ok.un ?_ | with_reducible refine Ok.tb ?_ | with_reducible refine Ok.tsb ?_ | with_reducible refine OkS.seq ?_ | with_reducible refine OkS.asg ?_ | with_reducible refine Then.nx ?_ | with_reducible refine Then.rt ?_ | with_reducible refine OkS.ifS ?_ | with_reducible refine Ok.notF ?_ | with_reducible refine Ok.andF ?_ | with_reducible refine Ok.orF ?_ | with_reducible refine Ok.ite ?_ | with_reducible refine Br.t ?_ | with_reducible refine Br.f ?_ | with_reducible refine Br.not ?_ | ((with_reducible refine OkS.aug ?_); refine ⟨_, rfl, ?_⟩) | ((with_reducible refine Ok.ix_t ?_); refine ⟨_, rfl, ?_⟩) | ((with_reducible refine Ok.ix_l ?_); refine ⟨_, rfl, ?_⟩) | ((with_reducible refine Ok.tgT ?_ ?_); exact rfl) | with_reducible refine Ok.tup ?_ | with_reducible refine Ok.lst ?_ | with_reducible refine Ok.lstO ?_ | with_reducible refine Ok.tst ?_ | with_reducible refine Ok.tru_bl ?_ | with_reducible refine Ok.tru_non ?_ | with_reducible refine Ok.tru_tup ?_ | with_reducible refine Ok.tru_lst ?_ | with_reducible refine Ok.tru_int ?_ | with_reducible refine Ok.boolF ?_ | with_reducible refine Ok.andV ?_ | with_reducible refine Ok.orV ?_ | with_reducible refine Ok.notV ?_ | with_reducible refine Ok.yes ?_ | with_reducible refine Ok.prtN ?_ | with_reducible refine Ok.prtS ?_ | with_reducible refine Ok.sli ?_ | with_reducible refine Ok.chF ?_ | with_reducible refine Ok.exi ?_ | with_reducible refine Ok.exb ?_ | with_reducible refine Ok.add_ii ?_ | with_reducible refine Ok.sub_ii ?_ | with_reducible refine Ok.neg_i ?_ | with_reducible refine Ok.lt_ii ?_ | with_reducible refine Ok.le_ii ?_ | with_reducible refine Ok.gt_ii ?_ | with_reducible refine Ok.ge_ii ?_ | with_reducible refine Ok.eq_ii ?_ | with_reducible refine Ok.ne_ii ?_ | with_reducible refine Ok.eq_ss ?_ | with_reducible refine Ok.ne_ss ?_ | with_reducible refine Ok.in_ss ?_ | with_reducible refine Ok.nin_ss ?_ | with_reducible refine Ok.is_nn ?_ | with_reducible refine Ok.int_i ?_ | with_reducible refine Ok.int_b ?_ | with_reducible refine Ok.str_s ?_ | with_reducible refine Ok.max_ii ?_ | with_reducible refine Ok.min_ii ?_ | with_reducible refine Ok.len_t ?_ | with_reducible refine Ok.len_l ?_ | with_reducible refine Ok.tup_t ?_ | with_reducible refine Ok.tup_l ?_ | with_reducible refine Ok.lst_t ?_ | with_reducible refine Ok.lst_l ?_ | with_reducible refine Ok.sli_t ?_ | with_reducible refine Ok.sli_l ?_ | with_reducible refine OkS.ret ?_ | with_reducible refine OkS.retN ?_ | with_reducible refine OkS.expr ?_ | with_reducible refine OkS.nx ?_ | with_reducible refine OkS.bk ?_ | with_reducible refine OkS.ct ?_ | with_reducible refine Then.bk ?_ | with_reducible refine Then.ct ?_ | with_reducible refine Rt.rt ?_ | with_reducible refine Rt.nx ?_ | with_reducible refine Lp.nx ?_ | with_reducible refine Lp.ct ?_ | with_reducible refine Lp.bk ?_ | with_reducible refine Lp.rt ?_ | with_reducible refine OkS.asgG ?_ | with_reducible refine OkS.par ?_ | with_reducible refine Ok.iadd_ii ?_ | with_reducible refine Ok.isub_ii ?_ | with_reducible refine Ok.tgN ?_ | with_reducible refine Ok.tgA0 ?_ | with_reducible refine Ok.tgA ?_ | with_reducible refine Ok.tgSub ?_ | with_reducible refine Ok.rngF ?_ | with_reducible refine Ok.cmpD ?_ | with_reducible refine Ok.cmpO ?_ | with_reducible refine Ok.ret ?_ | with_reducible refine Ok.ok ?_ | with_reducible refine Ok.newO ?_ | with_reducible refine Ok.bnd ?_ | with_reducible refine OkS.fore ?_ | with_reducible refine Ok.cmpe ?_ | with_reducible refine Ok.itT ?_ | with_reducible refine ItQ.tup ?_ | with_reducible refine ItQ.lst ?_ | with_reducible refine ItQ.ctu ?_ | with_reducible refine SrcQ.con ?_ | with_reducible refine SrcQ.tup ?_ | with_reducible refine SrcQ.lst ?_ | with_reducible refine SrcQ.ctu ?_ | ((with_reducible refine Ok.mod_ii ?_ ?_); (first | decide | (simp; done) | (simp; omega))) | ((with_reducible refine Ok.add_tt ?_ ?_); (first | decide | (simp; done) | (simp; omega))) | ((with_reducible refine Ok.add_ll ?_ ?_); (first | decide | (simp; done) | (simp; omega))) | ((with_reducible refine Ok.add_ss ?_ ?_); (first | decide | (simp; done) | (simp; omega))) | ((with_reducible refine Ok.rng1 ?_ ?_); (first | decide | omega | (simp; omega))) | ((with_reducible refine Br.dt ?_ ?_); (first | assumption | exact rfl | omega | decide +kernel)) | ((with_reducible refine Br.df ?_ ?_); (first | assumption | omega | decide +kernel)) | ((with_reducible refine Br.tt ?_ ?_); (first | assumption | decide +kernel)) | ((with_reducible refine Br.ff ?_ ?_); (first | assumption | decide +kernel)) | with_reducible refine Ok.is_in ?_ | with_reducible refine Ok.is_tn ?_ | with_reducible refine Ok.is_bn ?_ | with_reducible refine Ok.is_sn ?_ | with_reducible refine Ok.nis_in ?_ | with_reducible refine Ok.nis_tn ?_ | with_reducible refine Ok.nis_bn ?_ | with_reducible refine Ok.nis_sn ?_ | with_reducible refine OkS.lcons ?_ | with_reducible refine OkS.lnil ?_ | with_reducible refine Ok.icons ?_ | with_reducible refine Ok.inil ?_ | with_reducible refine Ok.is_bb ?_ | with_reducible refine Ok.nis_bb ?_ | with_reducible refine Ok.nis_nn ?_ | with_reducible refine Ok.pcons ?_ | with_reducible refine Ok.pnil ?_ | with_reducible refine Ok.dctK ?_ | with_reducible refine Ok.tgDic ?_ | with_reducible refine Ok.fld ?_ | with_reducible refine Ok.tgAtt ?_ | with_reducible refine Ok.makO ?_ | ((with_reducible refine Ok.isi_tup (p := true) ?_ ?_); decide +kernel) | ((with_reducible refine Ok.isi_tup (p := false) ?_ ?_); decide +kernel) | ((with_reducible refine Ok.isi_int (p := true) ?_ ?_); decide +kernel) | ((with_reducible refine Ok.isi_int (p := false) ?_ ?_); decide +kernel) | ((with_reducible refine Ok.isi_str (p := true) ?_ ?_); decide +kernel) | ((with_reducible refine Ok.isi_str (p := false) ?_ ?_); decide +kernel) | ((with_reducible refine Ok.isi_lst (p := true) ?_ ?_); decide +kernel) | ((with_reducible refine Ok.isi_lst (p := false) ?_ ?_); decide +kernel) | ((with_reducible refine Ok.isi_bl (p := true) ?_ ?_); decide +kernel) | ((with_reducible refine Ok.isi_bl (p := false) ?_ ?_); decide +kernel) | ((with_reducible refine Ok.isi_non (p := true) ?_ ?_); decide +kernel) | ((with_reducible refine Ok.isi_non (p := false) ?_ ?_); decide +kernel) | ((with_reducible refine Ok.isi_ctu (p := true) ?_ ?_); decide +kernel) | ((with_reducible refine Ok.isi_ctu (p := false) ?_ ?_); decide +kernel) | ((with_reducible refine Ok.isi_emp (p := true) ?_ ?_); decide +kernel) | ((with_reducible refine Ok.isi_emp (p := false) ?_ ?_); decide +kernel) | (with_reducible refine Ok.disp ?_)))
section
variable {S0 : Store} {o b a : Nat} {size : Int} {deep : Str} {ks : List Str} {s : St} {l : D} {i : Int}
theorem Br.mid {bb : Bool} {r1 r2 : RS} {Q : Fl → Frame → Store → Prop} (P : Fl → Frame → Store → Prop) (h : Br bb (OkS r1 P) (OkS r2 P)) (k : ∀ fl fr S, P fl fr S → Q fl fr S) : Br bb (OkS r1 Q) (OkS r2 Q) := by
  cases bb with
  | true => exact OkS.imp (show OkS r1 P from h) k
  | false => exact OkS.imp (show OkS r2 P from h) k
/-- what the letters stand for -/
def Lets (l : D) (ls : List Int) : Prop := ∀ (i : Fin 4) (S : Store), ixD l (.int ((i.val : Nat) : Int)) S = .ok (.int (ls.getD i.val 0)) S
theorem Lets.tup {ls : List Int} (h : ls.length = 4) : Lets (.tup (ls.map .int)) ls := fun i S => ix_tup (atI_m (by omega))
theorem Lets.ctu {ls : List Int} (h : ls.length = 4) : Lets (.ctu (ls.map .int)) ls := fun i S => by
  show ixD (.ctu (ls.map .int)) _ S = _
  unfold ixD
  show (match atI (ls.map D.int) ((i.val : Nat) : Int) with | some d => R.ok d S | none => R.bad) = _
  rw [atI_m (x0 := 0) (g := D.int) (l := ls) (k := i.val) (by omega)]
theorem keepS_no {k : Ky} (h : k.s ∉ ks) : keepS ks k s = s := by
  unfold keepS
  rw [if_neg (by simpa using h)]
theorem KEEPS_ok : ∀ a ∈ KEEPS, PyData.strOk a = true := by decide +kernel
theorem key_facts : (∀ n : Fin 10, (Ky.dig n).s ∉ KEEPS) ∧ (∀ n : Fin 4, (Ky.lett n).s ∉ KEEPS ∧ (Ky.lett n).s ≠ "enter" ∧ (Ky.lett n).s ≠ "clear") ∧ Ky.enter.s ∉ KEEPS ∧ Ky.clear.s ∉ KEEPS := by decide +kernel
theorem keepS_len {k : Ky} : (keepS ks k s).lv = s.lv := rfl
theorem keepS_bnd {k : Ky} {B : Nat} (h : bnds B s) : bnds B (keepS ks k s) := by
  refine ⟨h.1, ?_, h.2.2⟩
  show Int.natAbs (if _ then _ else _) < _
  split
  · exact getD_bnd h.1
  · exact h.2.1
theorem mid (m : Mch S0 o b a size deep ks) (h2 : 2 ≤ s.lv.length) (k : Ky) {Q : Fl → Frame → Store → Prop} (h : ∀ s', s' = keepS ks k s → s'.lv = s.lv → Q .nx [some (.ob o), some (.str k.s)] (S0.set o (some (.ins "Machine" (mf b s' l a))))) :
    Br (decide (k.s ∈ ks)) (OkS (asgG (tgAtt ["Machine"] "kept" (varF 0)) (binF ixD (fldF ["Machine"] "stack" (varF 0)) (cstF (.int 0))) [some (.ob o), some (.str k.s)] (S0.set o (some (.ins "Machine" (mf b s l a))))) Q) (OkS (nxF [some (.ob o), some (.str k.s)] (S0.set o (some (.ins "Machine" (mf b s l a))))) Q) := by
  have lt := m.lt
  refine Br.spd (fun c => ?_) (fun c => ?_)
  · and_intros
    exact h ⟨s.lv, s.lv.getD 0 0, s.mem, s.way⟩ (by unfold keepS; rw [if_pos (by simpa using c)]) rfl
  · and_intros
    exact h s (keepS_no c).symm rfl
theorem press (m : Mch S0 o b a size deep ks) (h2 : 2 ≤ s.lv.length) (h6 : s.lv.length ≤ 6) {B : Nat} (hB2 : 2 ≤ B) (hB : B ≤ 9000) (hx : bnds B s) {ls : List Int} (hl : Lets l ls) (k : Ky) : Ok (F_Machine_press [.ob o, .str k.s] (S0.set o (some (.ins "Machine" (mf b s l a))))) fun d S' => d = .non ∧ S' = S0.set o (some (.ins "Machine" (mf b (pressN deep ks ls k s) l a))) := by
  have lt := m.lt
  have na := m.na
  have nb := m.nb
  have ar := m.ar
  have box := m.box
  have ok := k.ok
  have okk : ∀ a ∈ ks, PyData.strOk a = true := fun a h => KEEPS_ok a (m.sub a h)
  have no : ∀ k : Ky, k.s ∉ KEEPS → k.s ∉ ks := fun k h1 h2 => h1 (m.sub _ h2)
  cases k with
  | dig n =>
    have f := dig_ok n
    have e : pressN deep ks ls (.dig n) s = pressS deep ls (.dig n) s := congrArg (pressS deep ls (.dig n)) (keepS_no (no _ (key_facts.1 n)))
    rw [e]
    with_reducible refine Ok.def_ ?_
    simp only [frame0, List.map_cons, List.map_nil, List.length_cons, List.length_nil, Nat.reduceAdd, Nat.reduceSub, Nat.zero_add, List.reduceReplicate, List.cons_append, List.nil_append]
    unfold B_Machine_press
    and_intros
    refine Br.tt f.1 ?_
    and_intros
    refine Ok.int_s f.2.1 f.2.2.1 ?_
    and_intros
    refine (press_digit m h2 h6 hB2 hB (getD_bnd hx.1) (x := ls) n).imp ?_
    rintro d S' ⟨rfl, rfl⟩
    and_intros
    exact ⟨rfl, rfl⟩
  | enter =>
    have e : pressN deep ks ls .enter s = pressS deep ls .enter s := congrArg (pressS deep ls .enter) (keepS_no (no _ key_facts.2.2.1))
    rw [e]
    show Ok (F_Machine_press [.ob o, .str "enter"] _) _
    with_reducible refine Ok.def_ ?_
    simp only [frame0, List.map_cons, List.map_nil, List.length_cons, List.length_nil, Nat.reduceAdd, Nat.reduceSub, Nat.zero_add, List.reduceReplicate, List.cons_append, List.nil_append]
    unfold B_Machine_press
    and_intros
    refine ⟨rfl, ?_⟩
    have e2 : s.lv.take 1 ++ s.lv.dropLast = s.lv.getD 0 0 :: s.lv.dropLast := by
      cases e3 : s.lv with
      | nil => rw [e3] at h2; simp at h2
      | cons x r => simp
    simp only [pressS, e2]
  | clear =>
    have e : pressN deep ks ls .clear s = pressS deep ls .clear s := congrArg (pressS deep ls .clear) (keepS_no (no _ key_facts.2.2.2))
    rw [e]
    show Ok (F_Machine_press [.ob o, .str "clear"] _) _
    with_reducible refine Ok.def_ ?_
    simp only [frame0, List.map_cons, List.map_nil, List.length_cons, List.length_nil, Nat.reduceAdd, Nat.reduceSub, Nat.zero_add, List.reduceReplicate, List.cons_append, List.nil_append]
    unfold B_Machine_press
    and_intros
    exact ⟨rfl, rfl⟩
  | lett n =>
    have f := lett_ok n
    have f2 := key_facts.2.1 n
    have e : pressN deep ks ls (.lett n) s = pressS deep ls (.lett n) s := congrArg (pressS deep ls (.lett n)) (keepS_no (no _ f2.1))
    rw [e]
    with_reducible refine Ok.def_ ?_
    simp only [frame0, List.map_cons, List.map_nil, List.length_cons, List.length_nil, Nat.reduceAdd, Nat.reduceSub, Nat.zero_add, List.reduceReplicate, List.cons_append, List.nil_append]
    unfold B_Machine_press
    and_intros
    refine Br.ff f.1 ?_
    and_intros
    refine Br.df f2.2.1 ?_
    and_intros
    refine Br.df f2.2.2 ?_
    and_intros
    refine Ok.in_st ok okk ?_
    and_intros
    refine Br.df (no _ f2.1) ?_
    and_intros
    refine Br.tt f.2.1 ?_
    and_intros
    refine Ok.met ?_
    and_intros
    refine ⟨beq_self_eq_true _, ?_⟩
    and_intros
    refine Ok.six f.2.2 ?_
    and_intros
    refine Ok.of (hl n _) ?_
    and_intros
    refine (come_in m h2 h6).imp ?_
    rintro d S' ⟨rfl, rfl⟩
    and_intros
    exact ⟨rfl, rfl⟩
  | plus =>
    show Ok (F_Machine_press [.ob o, .str "+"] _) _
    with_reducible refine Ok.def_ ?_
    simp only [frame0, List.map_cons, List.map_nil, List.length_cons, List.length_nil, Nat.reduceAdd, Nat.reduceSub, Nat.zero_add, List.reduceReplicate, List.cons_append, List.nil_append]
    unfold B_Machine_press
    and_intros
    refine Ok.in_st (by decide +kernel) okk ?_
    and_intros
    refine mid m h2 .plus (fun s' es el => ?_)
    unfold pressN
    rw [← es]
    have h2' : 2 ≤ s'.lv.length := by rw [el]; exact h2
    have h6' : s'.lv.length ≤ 6 := by rw [el]; exact h6
    have hx' : bnds B s' := by rw [es]; exact keepS_bnd hx
    clear es el hx h2 h6
    and_intros
    refine Ok.in_td (ks := ["+", "-", "*"]) rfl (by decide +kernel) (by decide +kernel) ?_
    and_intros
    refine (press_sign m h2' h6' hB hx' (x := ls) .plus (by simp)).imp ?_
    rintro d S' ⟨rfl, rfl⟩
    and_intros
    exact ⟨rfl, rfl⟩
  | minus =>
    show Ok (F_Machine_press [.ob o, .str "-"] _) _
    with_reducible refine Ok.def_ ?_
    simp only [frame0, List.map_cons, List.map_nil, List.length_cons, List.length_nil, Nat.reduceAdd, Nat.reduceSub, Nat.zero_add, List.reduceReplicate, List.cons_append, List.nil_append]
    unfold B_Machine_press
    and_intros
    refine Ok.in_st (by decide +kernel) okk ?_
    and_intros
    refine mid m h2 .minus (fun s' es el => ?_)
    unfold pressN
    rw [← es]
    have h2' : 2 ≤ s'.lv.length := by rw [el]; exact h2
    have h6' : s'.lv.length ≤ 6 := by rw [el]; exact h6
    have hx' : bnds B s' := by rw [es]; exact keepS_bnd hx
    clear es el hx h2 h6
    and_intros
    refine Ok.in_td (ks := ["+", "-", "*"]) rfl (by decide +kernel) (by decide +kernel) ?_
    and_intros
    refine (press_sign m h2' h6' hB hx' (x := ls) .minus (by simp)).imp ?_
    rintro d S' ⟨rfl, rfl⟩
    and_intros
    exact ⟨rfl, rfl⟩
  | times =>
    show Ok (F_Machine_press [.ob o, .str "*"] _) _
    with_reducible refine Ok.def_ ?_
    simp only [frame0, List.map_cons, List.map_nil, List.length_cons, List.length_nil, Nat.reduceAdd, Nat.reduceSub, Nat.zero_add, List.reduceReplicate, List.cons_append, List.nil_append]
    unfold B_Machine_press
    and_intros
    refine Ok.in_st (by decide +kernel) okk ?_
    and_intros
    refine mid m h2 .times (fun s' es el => ?_)
    unfold pressN
    rw [← es]
    have h2' : 2 ≤ s'.lv.length := by rw [el]; exact h2
    have h6' : s'.lv.length ≤ 6 := by rw [el]; exact h6
    have hx' : bnds B s' := by rw [es]; exact keepS_bnd hx
    clear es el hx h2 h6
    and_intros
    refine Ok.in_td (ks := ["+", "-", "*"]) rfl (by decide +kernel) (by decide +kernel) ?_
    and_intros
    refine (press_sign m h2' h6' hB hx' (x := ls) .times (by simp)).imp ?_
    rintro d S' ⟨rfl, rfl⟩
    and_intros
    exact ⟨rfl, rfl⟩
  | neg =>
    show Ok (F_Machine_press [.ob o, .str "neg"] _) _
    with_reducible refine Ok.def_ ?_
    simp only [frame0, List.map_cons, List.map_nil, List.length_cons, List.length_nil, Nat.reduceAdd, Nat.reduceSub, Nat.zero_add, List.reduceReplicate, List.cons_append, List.nil_append]
    unfold B_Machine_press
    and_intros
    refine Ok.in_st (by decide +kernel) okk ?_
    and_intros
    refine mid m h2 .neg (fun s' es el => ?_)
    unfold pressN
    rw [← es]
    have h2' : 2 ≤ s'.lv.length := by rw [el]; exact h2
    have h6' : s'.lv.length ≤ 6 := by rw [el]; exact h6
    have hx' : bnds B s' := by rw [es]; exact keepS_bnd hx
    clear es el hx h2 h6
    and_intros
    refine Ok.in_td (ks := ["+", "-", "*"]) rfl (by decide +kernel) (by decide +kernel) ?_
    and_intros
    exact ⟨rfl, rfl⟩
  | swap =>
    show Ok (F_Machine_press [.ob o, .str "swap"] _) _
    with_reducible refine Ok.def_ ?_
    simp only [frame0, List.map_cons, List.map_nil, List.length_cons, List.length_nil, Nat.reduceAdd, Nat.reduceSub, Nat.zero_add, List.reduceReplicate, List.cons_append, List.nil_append]
    unfold B_Machine_press
    and_intros
    refine Ok.in_st (by decide +kernel) okk ?_
    and_intros
    refine mid m h2 .swap (fun s' es el => ?_)
    unfold pressN
    rw [← es]
    have h2' : 2 ≤ s'.lv.length := by rw [el]; exact h2
    have h6' : s'.lv.length ≤ 6 := by rw [el]; exact h6
    have hx' : bnds B s' := by rw [es]; exact keepS_bnd hx
    clear es el hx h2 h6
    and_intros
    refine Ok.in_td (ks := ["+", "-", "*"]) rfl (by decide +kernel) (by decide +kernel) ?_
    and_intros
    refine (press_mover m h2' h6' (x := ls) .swap (by simp)).imp ?_
    rintro d S' ⟨rfl, rfl⟩
    and_intros
    exact ⟨rfl, rfl⟩
  | down =>
    show Ok (F_Machine_press [.ob o, .str "down"] _) _
    with_reducible refine Ok.def_ ?_
    simp only [frame0, List.map_cons, List.map_nil, List.length_cons, List.length_nil, Nat.reduceAdd, Nat.reduceSub, Nat.zero_add, List.reduceReplicate, List.cons_append, List.nil_append]
    unfold B_Machine_press
    and_intros
    refine Ok.in_st (by decide +kernel) okk ?_
    and_intros
    refine mid m h2 .down (fun s' es el => ?_)
    unfold pressN
    rw [← es]
    have h2' : 2 ≤ s'.lv.length := by rw [el]; exact h2
    have h6' : s'.lv.length ≤ 6 := by rw [el]; exact h6
    have hx' : bnds B s' := by rw [es]; exact keepS_bnd hx
    clear es el hx h2 h6
    and_intros
    refine Ok.in_td (ks := ["+", "-", "*"]) rfl (by decide +kernel) (by decide +kernel) ?_
    and_intros
    refine (press_mover m h2' h6' (x := ls) .down (by simp)).imp ?_
    rintro d S' ⟨rfl, rfl⟩
    and_intros
    exact ⟨rfl, rfl⟩
  | up =>
    show Ok (F_Machine_press [.ob o, .str "up"] _) _
    with_reducible refine Ok.def_ ?_
    simp only [frame0, List.map_cons, List.map_nil, List.length_cons, List.length_nil, Nat.reduceAdd, Nat.reduceSub, Nat.zero_add, List.reduceReplicate, List.cons_append, List.nil_append]
    unfold B_Machine_press
    and_intros
    refine Ok.in_st (by decide +kernel) okk ?_
    and_intros
    refine mid m h2 .up (fun s' es el => ?_)
    unfold pressN
    rw [← es]
    have h2' : 2 ≤ s'.lv.length := by rw [el]; exact h2
    have h6' : s'.lv.length ≤ 6 := by rw [el]; exact h6
    have hx' : bnds B s' := by rw [es]; exact keepS_bnd hx
    clear es el hx h2 h6
    and_intros
    refine Ok.in_td (ks := ["+", "-", "*"]) rfl (by decide +kernel) (by decide +kernel) ?_
    and_intros
    refine (press_mover m h2' h6' (x := ls) .up (by simp)).imp ?_
    rintro d S' ⟨rfl, rfl⟩
    and_intros
    exact ⟨rfl, rfl⟩
  | last =>
    show Ok (F_Machine_press [.ob o, .str "last"] _) _
    with_reducible refine Ok.def_ ?_
    simp only [frame0, List.map_cons, List.map_nil, List.length_cons, List.length_nil, Nat.reduceAdd, Nat.reduceSub, Nat.zero_add, List.reduceReplicate, List.cons_append, List.nil_append]
    unfold B_Machine_press
    and_intros
    refine Ok.in_st (by decide +kernel) okk ?_
    and_intros
    refine mid m h2 .last (fun s' es el => ?_)
    unfold pressN
    rw [← es]
    have h2' : 2 ≤ s'.lv.length := by rw [el]; exact h2
    have h6' : s'.lv.length ≤ 6 := by rw [el]; exact h6
    have hx' : bnds B s' := by rw [es]; exact keepS_bnd hx
    clear es el hx h2 h6
    and_intros
    refine Ok.in_td (ks := ["+", "-", "*"]) rfl (by decide +kernel) (by decide +kernel) ?_
    and_intros
    refine (press_mover m h2' h6' (x := ls) .last (by simp)).imp ?_
    rintro d S' ⟨rfl, rfl⟩
    and_intros
    exact ⟨rfl, rfl⟩
  | put =>
    show Ok (F_Machine_press [.ob o, .str "put"] _) _
    with_reducible refine Ok.def_ ?_
    simp only [frame0, List.map_cons, List.map_nil, List.length_cons, List.length_nil, Nat.reduceAdd, Nat.reduceSub, Nat.zero_add, List.reduceReplicate, List.cons_append, List.nil_append]
    unfold B_Machine_press
    and_intros
    refine Ok.in_st (by decide +kernel) okk ?_
    and_intros
    refine mid m h2 .put (fun s' es el => ?_)
    unfold pressN
    rw [← es]
    have h2' : 2 ≤ s'.lv.length := by rw [el]; exact h2
    have h6' : s'.lv.length ≤ 6 := by rw [el]; exact h6
    have hx' : bnds B s' := by rw [es]; exact keepS_bnd hx
    clear es el hx h2 h6
    and_intros
    refine Ok.in_td (ks := ["+", "-", "*"]) rfl (by decide +kernel) (by decide +kernel) ?_
    and_intros
    refine (press_mover m h2' h6' (x := ls) .put (by simp)).imp ?_
    rintro d S' ⟨rfl, rfl⟩
    and_intros
    exact ⟨rfl, rfl⟩
  | get =>
    show Ok (F_Machine_press [.ob o, .str "get"] _) _
    with_reducible refine Ok.def_ ?_
    simp only [frame0, List.map_cons, List.map_nil, List.length_cons, List.length_nil, Nat.reduceAdd, Nat.reduceSub, Nat.zero_add, List.reduceReplicate, List.cons_append, List.nil_append]
    unfold B_Machine_press
    and_intros
    refine Ok.in_st (by decide +kernel) okk ?_
    and_intros
    refine mid m h2 .get (fun s' es el => ?_)
    unfold pressN
    rw [← es]
    have h2' : 2 ≤ s'.lv.length := by rw [el]; exact h2
    have h6' : s'.lv.length ≤ 6 := by rw [el]; exact h6
    have hx' : bnds B s' := by rw [es]; exact keepS_bnd hx
    clear es el hx h2 h6
    and_intros
    refine Ok.in_td (ks := ["+", "-", "*"]) rfl (by decide +kernel) (by decide +kernel) ?_
    and_intros
    refine (press_mover m h2' h6' (x := ls) .get (by simp)).imp ?_
    rintro d S' ⟨rfl, rfl⟩
    and_intros
    exact ⟨rfl, rfl⟩
end
end DL.Lb
namespace DL.Lb
open PySem PySem.Spec PyProof.Rows L2 DL
local macro_rules | `(tactic| and_intros) => `(tactic| repeat (first | ((with_reducible refine Ok.fldM ?_ ?_ ?_); (assumption); (exact c_M); (first | refine ⟨_, g_stack, ?_⟩ | refine ⟨_, g_kept, ?_⟩ | refine ⟨_, g_store, ?_⟩ | refine ⟨_, g_way, ?_⟩ | refine ⟨_, g_keyed, ?_⟩ | refine ⟨_, g_arith, ?_⟩ | refine ⟨_, g_rules, ?_⟩)) | ((with_reducible refine Ok.setM ?_ ?_ ?_ ?_); (assumption); (exact c_M); (exact mf_len); (first | refine ⟨_, p_stack, ?_⟩ | refine ⟨_, p_kept, ?_⟩ | refine ⟨_, p_store, ?_⟩ | refine ⟨_, p_way, ?_⟩)) | with_reducible refine Ok.sl_d1 ?_ | with_reducible refine Ok.sl_d2 ?_ | with_reducible refine Ok.sl_t1 ?_ | with_reducible refine Ok.sl_dl ?_ | with_reducible refine Ok.sl_l1 ?_ | ((with_reducible refine Ok.ad_1m ?_ ?_); (simp; omega)) | ((with_reducible refine Ok.ad_2m ?_ ?_); (simp; omega)) | ((with_reducible refine Ok.ad_m1 ?_ ?_); (simp; omega)) | ((with_reducible refine Ok.ad_mm ?_ ?_); (simp; omega)) | ((with_reducible refine Ok.ixm0 ?_ ?_); (omega)) | ((with_reducible refine Ok.ixm1 ?_ ?_); (omega)) | ((with_reducible refine Ok.ixm9 ?_ ?_); (omega)) | with_reducible refine const_ ?_ | with_reducible refine plus_ ?_ | with_reducible refine minus_ ?_ | with_reducible refine Ok.mtd1 ?_ | with_reducible refine Ok.prp1 ?_ | refine ⟨_, _, rfl, (List.getElem?_set_ne (by assumption)).trans (by assumption), rfl, ?_⟩ | refine ⟨_, _, rfl, List.getElem?_set_self (by assumption), rfl, ?_⟩ | refine ⟨_, _, rfl, (List.getElem?_set_ne (by assumption)).trans (by assumption), ?_⟩ | with_reducible refine deepest_ ((List.getElem?_set_ne (by assumption)).trans (by assumption)) ?_ | with_reducible refine keeps_ ((List.getElem?_set_ne (by assumption)).trans (by assumption)) ?_ | with_reducible refine Ok.sli_tail ?_ | ((with_reducible refine Ok.var ?_); refine ⟨_, rfl, ?_⟩) | ((with_reducible refine Fr.go ?_); intro fr_ e_; simp only [List.set_cons_zero, List.set_cons_succ, setAll, wipeF] at e_; subst e_) | with_reducible refine Ok.bin ?_ | with_reducible refine Ok.calp ?_ | with_reducible refine Ok.cal ?_ | with_reducible refine Ok.cst ?_ | with_reducible refine Ok.acons ?_ | with_reducible refine Ok.anil ?_ | with_reducible refine Ok.un ?_ | with_reducible refine Ok.tb ?_ | with_reducible refine Ok.tsb ?_ | with_reducible refine OkS.seq ?_ | with_reducible refine OkS.asg ?_ | with_reducible refine Then.nx ?_ | with_reducible refine Then.rt ?_ | with_reducible refine OkS.ifS ?_ | with_reducible refine Ok.notF ?_ | with_reducible refine Ok.andF ?_ | with_reducible refine Ok.orF ?_ | with_reducible refine Ok.ite ?_ | with_reducible refine Br.t ?_ | with_reducible refine Br.f ?_ | with_reducible refine Br.not ?_ | ((with_reducible refine OkS.aug ?_); refine ⟨_, rfl, ?_⟩) | ((with_reducible refine Ok.ix_t ?_); refine ⟨_, rfl, ?_⟩) | ((with_reducible refine Ok.ix_l ?_); refine ⟨_, rfl, ?_⟩) | ((with_reducible refine Ok.tgT ?_ ?_); exact rfl) | with_reducible refine Ok.tup ?_ | with_reducible refine Ok.lst ?_ | with_reducible refine Ok.lstO ?_ | with_reducible refine Ok.tst ?_ | with_reducible refine Ok.tru_bl ?_ | with_reducible refine Ok.tru_non ?_ | with_reducible refine Ok.tru_tup ?_ | with_reducible refine Ok.tru_lst ?_ | with_reducible refine Ok.tru_int ?_ | with_reducible refine Ok.boolF ?_ | with_reducible refine Ok.andV ?_ | with_reducible refine Ok.orV ?_ | with_reducible refine Ok.notV ?_ | with_reducible refine Ok.yes ?_ | with_reducible refine Ok.prtN ?_ | with_reducible refine Ok.prtS ?_ | with_reducible refine Ok.sli ?_ | with_reducible refine Ok.chF ?_ | with_reducible refine Ok.exi ?_ | with_reducible refine Ok.exb ?_ | with_reducible refine Ok.add_ii ?_ | with_reducible refine Ok.sub_ii ?_ | with_reducible refine Ok.neg_i ?_ | with_reducible refine Ok.lt_ii ?_ | with_reducible refine Ok.le_ii ?_ | with_reducible refine Ok.gt_ii ?_ | with_reducible refine Ok.ge_ii ?_ | with_reducible refine Ok.eq_ii ?_ | with_reducible refine Ok.ne_ii ?_ | with_reducible refine Ok.eq_ss ?_ | with_reducible refine Ok.ne_ss ?_ | with_reducible refine Ok.in_ss ?_ | with_reducible refine Ok.nin_ss ?_ | with_reducible refine Ok.is_nn ?_ | with_reducible refine Ok.int_i ?_ | with_reducible refine Ok.int_b ?_ | with_reducible refine Ok.str_s ?_ | with_reducible refine Ok.max_ii ?_ | with_reducible refine Ok.min_ii ?_ | with_reducible refine Ok.len_t ?_ | with_reducible refine Ok.len_l ?_ | with_reducible refine Ok.tup_t ?_ | with_reducible refine Ok.tup_l ?_ | with_reducible refine Ok.lst_t ?_ | with_reducible refine Ok.lst_l ?_ | with_reducible refine Ok.sli_t ?_ | with_reducible refine Ok.sli_l ?_ | with_reducible refine OkS.ret ?_ | with_reducible refine OkS.retN ?_ | with_reducible refine OkS.expr ?_ | with_reducible refine OkS.nx ?_ | with_reducible refine OkS.bk ?_ | with_reducible refine OkS.ct ?_ | with_reducible refine Then.bk ?_ | with_reducible refine Then.ct ?_ | with_reducible refine Rt.rt ?_ | with_reducible refine Rt.nx ?_ | with_reducible refine Lp.nx ?_ | with_reducible refine Lp.ct ?_ | with_reducible refine Lp.bk ?_ | with_reducible refine Lp.rt ?_ | with_reducible refine OkS.asgG ?_ | with_reducible refine OkS.par ?_ | with_reducible refine Ok.iadd_ii ?_ | with_reducible refine Ok.isub_ii ?_ | with_reducible refine Ok.tgN ?_ | with_reducible refine Ok.tgA0 ?_ | with_reducible refine Ok.tgA ?_ | with_reducible refine Ok.tgSub ?_ | with_reducible refine Ok.rngF ?_ | with_reducible refine Ok.cmpD ?_ | with_reducible refine Ok.cmpO ?_ | with_reducible refine Ok.ret ?_ | with_reducible refine Ok.ok ?_ | with_reducible refine Ok.newO ?_ | with_reducible refine Ok.bnd ?_ | with_reducible refine OkS.fore ?_ | with_reducible refine Ok.cmpe ?_ | with_reducible refine Ok.itT ?_ | with_reducible refine ItQ.tup ?_ | with_reducible refine ItQ.lst ?_ | with_reducible refine ItQ.ctu ?_ | with_reducible refine SrcQ.con ?_ | with_reducible refine SrcQ.tup ?_ | with_reducible refine SrcQ.lst ?_ | with_reducible refine SrcQ.ctu ?_ | ((with_reducible refine Ok.mod_ii ?_ ?_); (first | decide | (simp; done) | (simp; omega))) | ((with_reducible refine Ok.add_tt ?_ ?_); (first | decide | (simp; done) | (simp; omega))) | ((with_reducible refine Ok.add_ll ?_ ?_); (first | decide | (simp; done) | (simp; omega))) | ((with_reducible refine Ok.add_ss ?_ ?_); (first | decide | (simp; done) | (simp; omega))) | ((with_reducible refine Ok.rng1 ?_ ?_); (first | decide | omega | (simp; omega))) | ((with_reducible refine Br.dt ?_ ?_); (first | assumption | exact rfl | omega | decide +kernel)) | ((with_reducible refine Br.df ?_ ?_); (first | assumption | omega | decide +kernel)) | ((with_reducible refine Br.tt ?_ ?_); (first | assumption | decide +kernel)) | ((with_reducible refine Br.ff ?_ ?_); (first | assumption | decide +kernel)) | with_reducible refine Ok.is_in ?_ | with_reducible refine Ok.is_tn ?_ | with_reducible refine Ok.is_bn ?_ | with_reducible refine Ok.is_sn ?_ | with_reducible refine Ok.nis_in ?_ | with_reducible refine Ok.nis_tn ?_ | with_reducible refine Ok.nis_bn ?_ | with_reducible refine Ok.nis_sn ?_ | with_reducible refine OkS.lcons ?_ | with_reducible refine OkS.lnil ?_ | with_reducible refine Ok.icons ?_ | with_reducible refine Ok.inil ?_ | with_reducible refine Ok.is_bb ?_ | with_reducible refine Ok.nis_bb ?_ | with_reducible refine Ok.nis_nn ?_ | with_reducible refine Ok.pcons ?_ | with_reducible refine Ok.pnil ?_ | with_reducible refine Ok.dctK ?_ | with_reducible refine Ok.tgDic ?_ | with_reducible refine Ok.fld ?_ | with_reducible refine Ok.tgAtt ?_ | with_reducible refine Ok.makO ?_ | ((with_reducible refine Ok.isi_tup (p := true) ?_ ?_); decide +kernel) | ((with_reducible refine Ok.isi_tup (p := false) ?_ ?_); decide +kernel) | ((with_reducible refine Ok.isi_int (p := true) ?_ ?_); decide +kernel) | ((with_reducible refine Ok.isi_int (p := false) ?_ ?_); decide +kernel) | ((with_reducible refine Ok.isi_str (p := true) ?_ ?_); decide +kernel) | ((with_reducible refine Ok.isi_str (p := false) ?_ ?_); decide +kernel) | ((with_reducible refine Ok.isi_lst (p := true) ?_ ?_); decide +kernel) | ((with_reducible refine Ok.isi_lst (p := false) ?_ ?_); decide +kernel) | ((with_reducible refine Ok.isi_bl (p := true) ?_ ?_); decide +kernel) | ((with_reducible refine Ok.isi_bl (p := false) ?_ ?_); decide +kernel) | ((with_reducible refine Ok.isi_non (p := true) ?_ ?_); decide +kernel) | ((with_reducible refine Ok.isi_non (p := false) ?_ ?_); decide +kernel) | ((with_reducible refine Ok.isi_ctu (p := true) ?_ ?_); decide +kernel) | ((with_reducible refine Ok.isi_ctu (p := false) ?_ ?_); decide +kernel) | ((with_reducible refine Ok.isi_emp (p := true) ?_ ?_); decide +kernel) | ((with_reducible refine Ok.isi_emp (p := false) ?_ ?_); decide +kernel) | (with_reducible refine Ok.disp ?_)))
section
variable {S0 : Store} {o b a : Nat} {size : Int} {deep : Str} {ks : List Str} {s : St} {l : D} {i : Int}
/-! ### how great the numbers may be -/
theorem pow_up {x n m : Nat} (h : x < 10 ^ n) (hm : n ≤ m) : x < 10 ^ m := Nat.lt_of_lt_of_le h (Nat.pow_le_pow_right (by decide) hm)
theorem bnds.mono {n m : Nat} (h : bnds n s) (hm : n ≤ m) : bnds m s := ⟨fun x hx => pow_up (h.1 x hx) hm, pow_up h.2.1 hm, pow_up h.2.2 hm⟩
def kB (k : Ky) (B : Nat) : Nat := if k = .times then 2 * B else B + 1
theorem comeL_bnd {way : Str} {n : Int} {l : List Int} {B : Nat} (hn : n.natAbs < 10 ^ B) (hl : ∀ x ∈ l, Int.natAbs x < 10 ^ B) : ∀ x ∈ comeL way n l, Int.natAbs x < 10 ^ B := by
  unfold comeL
  intro x hx
  split at hx
  · rcases List.mem_cons.mp hx with rfl | hx
    · exact hn
    · exact hl x (List.mem_of_mem_drop hx)
  · rcases List.mem_cons.mp hx with rfl | hx
    · exact hn
    · exact hl x (List.dropLast_subset _ hx)
theorem sum_bnd {x y : Int} {B : Nat} (hx : x.natAbs < 10 ^ B) (hy : y.natAbs < 10 ^ B) : (x + y).natAbs < 10 ^ (B + 1) ∧ (x - y).natAbs < 10 ^ (B + 1) := by
  rw [Nat.pow_succ]
  omega
theorem pressS_bnd {B : Nat} (hB : 2 ≤ B) {ls : List Int} (hl : ∀ x ∈ ls, Int.natAbs x < 10 ^ B) (h : bnds B s) (k : Ky) : bnds (kB k B) (pressS deep ls k s) := by
  have up : ∀ x : Int, x.natAbs < 10 ^ B → x.natAbs < 10 ^ (B + 1) := fun x hx => pow_up hx (by omega)
  have up2 : ∀ x : Int, x.natAbs < 10 ^ B → x.natAbs < 10 ^ (2 * B) := fun x hx => pow_up hx (by omega)
  have kp := h.2.1
  have mem := h.2.2
  have g : ∀ i, Int.natAbs (s.lv.getD i 0) < 10 ^ B := fun i => getD_bnd h.1
  have z : ∀ n : Nat, n < 10 → n < 10 ^ B := fun n hn => Nat.lt_of_lt_of_le (show n < 10 ^ 1 by omega) (Nat.pow_le_pow_right (by decide) (by omega))
  have hd : ∀ k, ∀ x ∈ s.lv.drop k, Int.natAbs x < 10 ^ B := fun k x hx => h.1 x (List.mem_of_mem_drop hx)
  have ht : ∀ k, ∀ x ∈ s.lv.take k, Int.natAbs x < 10 ^ B := fun k x hx => h.1 x (List.mem_of_mem_take hx)
  have hdl : ∀ x ∈ s.lv.dropLast, Int.natAbs x < 10 ^ B := fun x hx => h.1 x (List.dropLast_subset _ hx)
  have cons : ∀ {m : Nat} {x : Int} {r : List Int}, x.natAbs < 10 ^ m → B ≤ m → (∀ y ∈ r, Int.natAbs y < 10 ^ B) → ∀ y ∈ x :: r, Int.natAbs y < 10 ^ m := fun hx hm hr y hy => by
    rcases List.mem_cons.mp hy with rfl | hy
    · exact hx
    · exact pow_up (hr y hy) hm
  have app : ∀ {m : Nat} {r q : List Int}, (∀ y ∈ r, Int.natAbs y < 10 ^ m) → (∀ y ∈ q, Int.natAbs y < 10 ^ m) → ∀ y ∈ r ++ q, Int.natAbs y < 10 ^ m := fun hr hq y hy => by
    rcases List.mem_append.mp hy with hy | hy
    · exact hr y hy
    · exact hq y hy
  have sgn : ∀ {m : Nat} {x : Int}, x.natAbs < 10 ^ m → B ≤ m → ∀ y ∈ (x :: s.lv.drop 2 ++ [if deep = "copy" then s.lv.getD (s.lv.length - 1) 0 else 0]), Int.natAbs y < 10 ^ m := fun {m x} hx hm => by
    refine app (cons hx hm (hd 2)) ?_
    intro y hy
    rcases List.mem_singleton.mp hy with rfl
    split
    · exact pow_up (g _) hm
    · exact Nat.pow_pos (by decide)
  have fin : ∀ {t : St} {m : Nat}, B ≤ m → (∀ x ∈ t.lv, Int.natAbs x < 10 ^ m) → t.kp.natAbs < 10 ^ B → t.mem.natAbs < 10 ^ B → bnds m t := fun hm h1 h2 h3 => ⟨h1, pow_up h2 hm, pow_up h3 hm⟩
  have e1 : ∀ k : Ky, k ≠ .times → kB k B = B + 1 := fun k hk => if_neg hk
  have l0 : ∀ n, Int.natAbs (ls.getD n 0) < 10 ^ B := fun n => getD_bnd hl
  cases k with
  | dig n =>
    show bnds (B + 1) _
    have hn : Int.natAbs ((n.val : Nat) : Int) < 10 ^ B := z _ (by omega)
    refine fin (by omega) ?_ kp mem
    show ∀ x ∈ (if s.way = "open" then _ else _ : List Int), _
    split
    · refine cons ?_ (by omega) (hd 1)
      have := g 0
      have := n.isLt
      rw [Nat.pow_succ]
      omega
    · exact fun x hx => up x (comeL_bnd hn h.1 x hx)
  | lett i =>
    show bnds (B + 1) _
    exact fin (by omega) (fun x hx => up x (comeL_bnd (l0 _) h.1 x hx)) kp mem
  | enter =>
    show bnds (B + 1) _
    exact fin (by omega) (cons (up _ (g 0)) (by omega) hdl) kp mem
  | clear =>
    show bnds (B + 1) _
    exact fin (by omega) (cons (up _ (z 0 (by decide))) (by omega) (hd 1)) kp mem
  | plus =>
    show bnds (B + 1) _
    exact fin (by omega) (sgn (sum_bnd (g 1) (g 0)).1 (by omega)) kp mem
  | minus =>
    show bnds (B + 1) _
    exact fin (by omega) (sgn (sum_bnd (g 1) (g 0)).2 (by omega)) kp mem
  | times =>
    rw [show kB .times B = 2 * B from if_pos rfl]
    refine fin (by omega) (sgn ?_ (by omega)) kp mem
    rw [Int.natAbs_mul, Nat.two_mul, Nat.pow_add]
    exact Nat.mul_lt_mul'' (g 1) (g 0)
  | neg =>
    show bnds (B + 1) _
    exact fin (by omega) (cons (sum_bnd (x := 0) (z 0 (by decide)) (g 0)).2 (by omega) (hd 1)) kp mem
  | swap =>
    show bnds (B + 1) _
    exact fin (by omega) (fun x hx => up x (cons (g 1) (Nat.le_refl _) (cons (g 0) (Nat.le_refl _) (hd 2)) x hx)) kp mem
  | down =>
    show bnds (B + 1) _
    exact fin (by omega) (fun x hx => up x (app (hd 1) (ht 1) x hx)) kp mem
  | up =>
    show bnds (B + 1) _
    exact fin (by omega) (fun x hx => up x (app (hd _) hdl x hx)) kp mem
  | last =>
    show bnds (B + 1) _
    exact fin (by omega) (fun x hx => up x (comeL_bnd kp h.1 x hx)) kp mem
  | put =>
    show bnds (B + 1) _
    exact fin (by omega) (fun x hx => up x (h.1 x hx)) kp (g 0)
  | get =>
    show bnds (B + 1) _
    exact fin (by omega) (fun x hx => up x (comeL_bnd mem h.1 x hx)) kp mem
theorem pressN_bnd {B : Nat} (hB : 2 ≤ B) {ls : List Int} (hl : ∀ x ∈ ls, Int.natAbs x < 10 ^ B) (h : bnds B s) (k : Ky) : bnds (kB k B) (pressN deep ks ls k s) := pressS_bnd hB hl (keepS_bnd h) k
/-- how many digits there may be behind a row -/
def rB : List Ky → Nat → Nat
  | [], B => B
  | k :: r, B => rB r (kB k B)
theorem kB_le (k : Ky) (B : Nat) (h : 1 ≤ B) : B ≤ kB k B := by unfold kB; split <;> omega
theorem rB_ge : ∀ (r : List Ky) (B : Nat), 1 ≤ B → B ≤ rB r B
  | [], B, _ => Nat.le_refl _
  | k :: r, B, h => Nat.le_trans (kB_le k B h) (rB_ge r (kB k B) (Nat.le_trans h (kB_le k B h)))
theorem rB_le : ∀ (r : List Ky) (B : Nat), rB r B ≤ (B + r.length) * 2 ^ r.count .times
  | [], B => by simp [rB]
  | k :: r, B => by
    have h := rB_le r (kB k B)
    refine Nat.le_trans h ?_
    by_cases hk : k = .times
    · subst hk
      rw [List.count_cons_self, List.length_cons, show kB .times B = 2 * B from if_pos rfl, Nat.pow_succ, ← Nat.mul_assoc, Nat.mul_right_comm]
      refine Nat.mul_le_mul_right _ ?_
      omega
    · rw [List.count_cons_of_ne hk, List.length_cons, show kB k B = B + 1 from if_neg hk]
      exact Nat.mul_le_mul_right _ (by omega)
/-! ### whole rows -/
def runN (deep : Str) (ks : List Str) (ls : List Int) : List Ky → St → St
  | [], s => s
  | k :: r, s => runN deep ks ls r (pressN deep ks ls k s)
def shownN (deep : Str) (ks : List Str) (ls : List Int) : List Ky → St → List Int
  | [], s => []
  | k :: r, s => (pressN deep ks ls k s).lv.getD 0 0 :: shownN deep ks ls r (pressN deep ks ls k s)
theorem runN_len {ls : List Int} : ∀ (r : List Ky) {s : St}, 2 ≤ s.lv.length → (runN deep ks ls r s).lv.length = s.lv.length
  | [], s, h => rfl
  | k :: r, s, h => by
    have e := pressN_len (deep := deep) (ks := ks) (l := ls) (k := k) h
    exact (runN_len r (by omega)).trans e
theorem runN_bnd {ls : List Int} : ∀ (r : List Ky) {s : St} {B : Nat}, 2 ≤ B → (∀ x ∈ ls, Int.natAbs x < 10 ^ B) → bnds B s → bnds (rB r B) (runN deep ks ls r s)
  | [], s, B, _, _, h => h
  | k :: r, s, B, hB, hl, h => runN_bnd r (Nat.le_trans hB (kB_le k B (by omega))) (fun x hx => pow_up (hl x hx) (kB_le k B (by omega))) (pressN_bnd hB hl h k)
theorem runN_app {ls : List Int} : ∀ (r q : List Ky) {s : St}, runN deep ks ls (r ++ q) s = runN deep ks ls q (runN deep ks ls r s)
  | [], q, s => rfl
  | k :: r, q, s => runN_app r q
def stD (s : St) : D := .tup [.tup (s.lv.map .int), .int s.kp, .int s.mem, .str s.way]
end
end DL.Lb
namespace DL.Lb
open PySem PySem.Spec PyProof.Rows L2 DL
theorem i_rules {d  : D} : putD "rules" d [] = ([("rules", d)] : List (Str × D)) := rfl
theorem i_stack {d x0 : D} : putD "stack" d [("rules", x0)] = ([("rules", x0), ("stack", d)] : List (Str × D)) := rfl
theorem i_kept {d x0 x1 : D} : putD "kept" d [("rules", x0), ("stack", x1)] = ([("rules", x0), ("stack", x1), ("kept", d)] : List (Str × D)) := rfl
theorem i_store {d x0 x1 x2 : D} : putD "store" d [("rules", x0), ("stack", x1), ("kept", x2)] = ([("rules", x0), ("stack", x1), ("kept", x2), ("store", d)] : List (Str × D)) := rfl
theorem i_way {d x0 x1 x2 x3 : D} : putD "way" d [("rules", x0), ("stack", x1), ("kept", x2), ("store", x3)] = ([("rules", x0), ("stack", x1), ("kept", x2), ("store", x3), ("way", d)] : List (Str × D)) := rfl
theorem i_keyed {d x0 x1 x2 x3 x4 : D} : putD "keyed" d [("rules", x0), ("stack", x1), ("kept", x2), ("store", x3), ("way", x4)] = ([("rules", x0), ("stack", x1), ("kept", x2), ("store", x3), ("way", x4), ("keyed", d)] : List (Str × D)) := rfl
theorem i_arithmetic {d x0 x1 x2 x3 x4 x5 : D} : putD "arithmetic" d [("rules", x0), ("stack", x1), ("kept", x2), ("store", x3), ("way", x4), ("keyed", x5)] = ([("rules", x0), ("stack", x1), ("kept", x2), ("store", x3), ("way", x4), ("keyed", x5), ("arithmetic", d)] : List (Str × D)) := rfl
local macro_rules | `(tactic| and_intros) => `(tactic| repeat (first | ((with_reducible refine Ok.fldM ?_ ?_ ?_); (assumption); (exact c_M); (first | refine ⟨_, g_stack, ?_⟩ | refine ⟨_, g_kept, ?_⟩ | refine ⟨_, g_store, ?_⟩ | refine ⟨_, g_way, ?_⟩ | refine ⟨_, g_keyed, ?_⟩ | refine ⟨_, g_arith, ?_⟩ | refine ⟨_, g_rules, ?_⟩)) | ((with_reducible refine Ok.setM ?_ ?_ ?_ ?_); (assumption); (exact c_M); (exact mf_len); (first | refine ⟨_, p_stack, ?_⟩ | refine ⟨_, p_kept, ?_⟩ | refine ⟨_, p_store, ?_⟩ | refine ⟨_, p_way, ?_⟩)) | with_reducible refine Ok.sl_d1 ?_ | with_reducible refine Ok.sl_d2 ?_ | with_reducible refine Ok.sl_t1 ?_ | with_reducible refine Ok.sl_dl ?_ | with_reducible refine Ok.sl_l1 ?_ | ((with_reducible refine Ok.ad_1m ?_ ?_); (simp; omega)) | ((with_reducible refine Ok.ad_2m ?_ ?_); (simp; omega)) | ((with_reducible refine Ok.ad_m1 ?_ ?_); (simp; omega)) | ((with_reducible refine Ok.ad_mm ?_ ?_); (simp; omega)) | ((with_reducible refine Ok.ixm0 ?_ ?_); (omega)) | ((with_reducible refine Ok.ixm1 ?_ ?_); (omega)) | ((with_reducible refine Ok.ixm9 ?_ ?_); (omega)) | with_reducible refine const_ ?_ | with_reducible refine plus_ ?_ | with_reducible refine minus_ ?_ | with_reducible refine Ok.mtd1 ?_ | with_reducible refine Ok.prp1 ?_ | refine ⟨_, _, rfl, (List.getElem?_set_ne (by assumption)).trans (by assumption), rfl, ?_⟩ | refine ⟨_, _, rfl, List.getElem?_set_self (by assumption), rfl, ?_⟩ | refine ⟨_, _, rfl, (List.getElem?_set_ne (by assumption)).trans (by assumption), ?_⟩ | with_reducible refine deepest_ ((List.getElem?_set_ne (by assumption)).trans (by assumption)) ?_ | with_reducible refine keeps_ ((List.getElem?_set_ne (by assumption)).trans (by assumption)) ?_ | ((with_reducible refine Ok.setM ?_ ?_ ?_ ?_); (assumption); (exact c_M); (focus (simp; done)); (first | refine ⟨_, i_rules, ?_⟩ | refine ⟨_, i_stack, ?_⟩ | refine ⟨_, i_kept, ?_⟩ | refine ⟨_, i_store, ?_⟩ | refine ⟨_, i_way, ?_⟩ | refine ⟨_, i_keyed, ?_⟩ | refine ⟨_, i_arithmetic, ?_⟩)) | ((with_reducible refine Ok.tgT ?_ ?_); (exact rfl)) | with_reducible refine Ok.sli_tail ?_ | ((with_reducible refine Ok.var ?_); refine ⟨_, rfl, ?_⟩) | ((with_reducible refine Fr.go ?_); intro fr_ e_; simp only [List.set_cons_zero, List.set_cons_succ, setAll, wipeF] at e_; subst e_) | with_reducible refine Ok.bin ?_ | with_reducible refine Ok.calp ?_ | with_reducible refine Ok.cal ?_ | with_reducible refine Ok.cst ?_ | with_reducible refine Ok.acons ?_ | with_reducible refine Ok.anil ?_ | with_reducible refine Ok.un ?_ | with_reducible refine Ok.tb ?_ | with_reducible refine Ok.tsb ?_ | with_reducible refine OkS.seq ?_ | with_reducible refine OkS.asg ?_ | with_reducible refine Then.nx ?_ | with_reducible refine Then.rt ?_ | with_reducible refine OkS.ifS ?_ | with_reducible refine Ok.notF ?_ | with_reducible refine Ok.andF ?_ | with_reducible refine Ok.orF ?_ | with_reducible refine Ok.ite ?_ | with_reducible refine Br.t ?_ | with_reducible refine Br.f ?_ | with_reducible refine Br.not ?_ | ((with_reducible refine OkS.aug ?_); refine ⟨_, rfl, ?_⟩) | ((with_reducible refine Ok.ix_t ?_); refine ⟨_, rfl, ?_⟩) | ((with_reducible refine Ok.ix_l ?_); refine ⟨_, rfl, ?_⟩) | ((with_reducible refine Ok.tgT ?_ ?_); exact rfl) | with_reducible refine Ok.tup ?_ | with_reducible refine Ok.lst ?_ | with_reducible refine Ok.lstO ?_ | with_reducible refine Ok.tst ?_ | with_reducible refine Ok.tru_bl ?_ | with_reducible refine Ok.tru_non ?_ | with_reducible refine Ok.tru_tup ?_ | with_reducible refine Ok.tru_lst ?_ | with_reducible refine Ok.tru_int ?_ | with_reducible refine Ok.boolF ?_ | with_reducible refine Ok.andV ?_ | with_reducible refine Ok.orV ?_ | with_reducible refine Ok.notV ?_ | with_reducible refine Ok.yes ?_ | with_reducible refine Ok.prtN ?_ | with_reducible refine Ok.prtS ?_ | with_reducible refine Ok.sli ?_ | with_reducible refine Ok.chF ?_ | with_reducible refine Ok.exi ?_ | with_reducible refine Ok.exb ?_ | with_reducible refine Ok.add_ii ?_ | with_reducible refine Ok.sub_ii ?_ | with_reducible refine Ok.neg_i ?_ | with_reducible refine Ok.lt_ii ?_ | with_reducible refine Ok.le_ii ?_ | with_reducible refine Ok.gt_ii ?_ | with_reducible refine Ok.ge_ii ?_ | with_reducible refine Ok.eq_ii ?_ | with_reducible refine Ok.ne_ii ?_ | with_reducible refine Ok.eq_ss ?_ | with_reducible refine Ok.ne_ss ?_ | with_reducible refine Ok.in_ss ?_ | with_reducible refine Ok.nin_ss ?_ | with_reducible refine Ok.is_nn ?_ | with_reducible refine Ok.int_i ?_ | with_reducible refine Ok.int_b ?_ | with_reducible refine Ok.str_s ?_ | with_reducible refine Ok.max_ii ?_ | with_reducible refine Ok.min_ii ?_ | with_reducible refine Ok.len_t ?_ | with_reducible refine Ok.len_l ?_ | with_reducible refine Ok.tup_t ?_ | with_reducible refine Ok.tup_l ?_ | with_reducible refine Ok.lst_t ?_ | with_reducible refine Ok.lst_l ?_ | with_reducible refine Ok.sli_t ?_ | with_reducible refine Ok.sli_l ?_ | with_reducible refine OkS.ret ?_ | with_reducible refine OkS.retN ?_ | with_reducible refine OkS.expr ?_ | with_reducible refine OkS.nx ?_ | with_reducible refine OkS.bk ?_ | with_reducible refine OkS.ct ?_ | with_reducible refine Then.bk ?_ | with_reducible refine Then.ct ?_ | with_reducible refine Rt.rt ?_ | with_reducible refine Rt.nx ?_ | with_reducible refine Lp.nx ?_ | with_reducible refine Lp.ct ?_ | with_reducible refine Lp.bk ?_ | with_reducible refine Lp.rt ?_ | with_reducible refine OkS.asgG ?_ | with_reducible refine OkS.par ?_ | with_reducible refine Ok.iadd_ii ?_ | with_reducible refine Ok.isub_ii ?_ | with_reducible refine Ok.tgN ?_ | with_reducible refine Ok.tgA0 ?_ | with_reducible refine Ok.tgA ?_ | with_reducible refine Ok.tgSub ?_ | with_reducible refine Ok.rngF ?_ | with_reducible refine Ok.cmpD ?_ | with_reducible refine Ok.cmpO ?_ | with_reducible refine Ok.ret ?_ | with_reducible refine Ok.ok ?_ | with_reducible refine Ok.newO ?_ | with_reducible refine Ok.bnd ?_ | with_reducible refine OkS.fore ?_ | with_reducible refine Ok.cmpe ?_ | with_reducible refine Ok.itT ?_ | with_reducible refine ItQ.tup ?_ | with_reducible refine ItQ.lst ?_ | with_reducible refine ItQ.ctu ?_ | with_reducible refine SrcQ.con ?_ | with_reducible refine SrcQ.tup ?_ | with_reducible refine SrcQ.lst ?_ | with_reducible refine SrcQ.ctu ?_ | ((with_reducible refine Ok.mod_ii ?_ ?_); (first | decide | (simp; done) | (simp; omega))) | ((with_reducible refine Ok.add_tt ?_ ?_); (first | decide | (simp; done) | (simp; omega))) | ((with_reducible refine Ok.add_ll ?_ ?_); (first | decide | (simp; done) | (simp; omega))) | ((with_reducible refine Ok.add_ss ?_ ?_); (first | decide | (simp; done) | (simp; omega))) | ((with_reducible refine Ok.rng1 ?_ ?_); (first | decide | omega | (simp; omega))) | ((with_reducible refine Br.dt ?_ ?_); (first | assumption | exact rfl | omega | decide +kernel)) | ((with_reducible refine Br.df ?_ ?_); (first | assumption | omega | decide +kernel)) | ((with_reducible refine Br.tt ?_ ?_); (first | assumption | decide +kernel)) | ((with_reducible refine Br.ff ?_ ?_); (first | assumption | decide +kernel)) | with_reducible refine Ok.is_in ?_ | with_reducible refine Ok.is_tn ?_ | with_reducible refine Ok.is_bn ?_ | with_reducible refine Ok.is_sn ?_ | with_reducible refine Ok.nis_in ?_ | with_reducible refine Ok.nis_tn ?_ | with_reducible refine Ok.nis_bn ?_ | with_reducible refine Ok.nis_sn ?_ | with_reducible refine OkS.lcons ?_ | with_reducible refine OkS.lnil ?_ | with_reducible refine Ok.icons ?_ | with_reducible refine Ok.inil ?_ | with_reducible refine Ok.is_bb ?_ | with_reducible refine Ok.nis_bb ?_ | with_reducible refine Ok.nis_nn ?_ | with_reducible refine Ok.pcons ?_ | with_reducible refine Ok.pnil ?_ | with_reducible refine Ok.dctK ?_ | with_reducible refine Ok.tgDic ?_ | with_reducible refine Ok.fld ?_ | with_reducible refine Ok.tgAtt ?_ | with_reducible refine Ok.makO ?_ | ((with_reducible refine Ok.isi_tup (p := true) ?_ ?_); decide +kernel) | ((with_reducible refine Ok.isi_tup (p := false) ?_ ?_); decide +kernel) | ((with_reducible refine Ok.isi_int (p := true) ?_ ?_); decide +kernel) | ((with_reducible refine Ok.isi_int (p := false) ?_ ?_); decide +kernel) | ((with_reducible refine Ok.isi_str (p := true) ?_ ?_); decide +kernel) | ((with_reducible refine Ok.isi_str (p := false) ?_ ?_); decide +kernel) | ((with_reducible refine Ok.isi_lst (p := true) ?_ ?_); decide +kernel) | ((with_reducible refine Ok.isi_lst (p := false) ?_ ?_); decide +kernel) | ((with_reducible refine Ok.isi_bl (p := true) ?_ ?_); decide +kernel) | ((with_reducible refine Ok.isi_bl (p := false) ?_ ?_); decide +kernel) | ((with_reducible refine Ok.isi_non (p := true) ?_ ?_); decide +kernel) | ((with_reducible refine Ok.isi_non (p := false) ?_ ?_); decide +kernel) | ((with_reducible refine Ok.isi_ctu (p := true) ?_ ?_); decide +kernel) | ((with_reducible refine Ok.isi_ctu (p := false) ?_ ?_); decide +kernel) | ((with_reducible refine Ok.isi_emp (p := true) ?_ ?_); decide +kernel) | ((with_reducible refine Ok.isi_emp (p := false) ?_ ?_); decide +kernel) | (with_reducible refine Ok.disp ?_)))
section
variable {S0 S : Store} {o b a f : Nat} {size : Int} {deep : Str} {ks : List Str} {s : St} {l : D} {i : Int}
theorem Mch.set (m : Mch S o b a size deep ks) {w : Option O} : Mch (S.set o w) o b a size deep ks :=
  ⟨by rw [List.length_set]; exact m.lt, m.nb, m.na, (List.getElem?_set_ne m.nb).trans m.box, (List.getElem?_set_ne m.na).trans m.ar, m.sub⟩
theorem Mch.setf (m : Mch S o b a size deep ks) {w : Option O} (hb : f ≠ b) (ha : f ≠ a) : Mch (S.set f w) o b a size deep ks :=
  ⟨by rw [List.length_set]; exact m.lt, m.nb, m.na, (List.getElem?_set_ne hb).trans m.box, (List.getElem?_set_ne ha).trans m.ar, m.sub⟩
theorem press' (m : Mch S o b a size deep ks) (e : S[o]? = some (some (.ins "Machine" (mf b s l a)))) (h2 : 2 ≤ s.lv.length) (h6 : s.lv.length ≤ 6) {B : Nat} (hB2 : 2 ≤ B) (hB : B ≤ 9000) (hx : bnds B s) {ls : List Int} (hl : Lets l ls) (k : Ky) : Ok (F_Machine_press [.ob o, .str k.s] S) fun d S' => d = .non ∧ S' = S.set o (some (.ins "Machine" (mf b (pressN deep ks ls k s) l a))) := by
  have h := press (S0 := S) m h2 h6 hB2 hB hx hl k
  rw [← set_self e] at h
  exact h
theorem init_ (ho : o < S.length) : Ok (F_Machine_init [.ob o, .ob b, stD s, l, .ob a] (S.set o (some (.ins "Machine" [])))) fun d S' => d = .non ∧ S' = S.set o (some (.ins "Machine" (mf b s l a))) := by
  unfold stD
  with_reducible refine Ok.def_ ?_
  simp only [frame0, List.map_cons, List.map_nil, List.length_cons, List.length_nil, Nat.reduceAdd, Nat.reduceSub, Nat.zero_add, List.reduceReplicate, List.cons_append, List.nil_append]
  unfold B_Machine_init
  and_intros
  exact ⟨rfl, rfl⟩
theorem parts_ (ho : o < S.length) : Ok (F_Machine_parts [.ob o] (S.set o (some (.ins "Machine" (mf b s l a))))) fun d S' => d = stD s ∧ S' = S.set o (some (.ins "Machine" (mf b s l a))) := by
  with_reducible refine Ok.def_ ?_
  simp only [frame0, List.map_cons, List.map_nil, List.length_cons, List.length_nil, Nat.reduceAdd, Nat.reduceSub, Nat.zero_add, List.reduceReplicate, List.cons_append, List.nil_append]
  unfold B_Machine_parts
  and_intros
  exact ⟨rfl, rfl⟩
theorem run_loop {ls : List Int} (hl : Lets l ls) {v0 v1 v2 v3 : Option D} {Q : Fl → Frame → Store → Prop} : ∀ (r : List Ky) {s : St} {S : Store} {B : Nat} {v5 : Option D}, Mch S o b a size deep ks → S[o]? = some (some (.ins "Machine" (mf b s l a))) → 2 ≤ s.lv.length → s.lv.length ≤ 6 → 2 ≤ B → rB r B ≤ 9000 → bnds B s → (∀ x ∈ ls, Int.natAbs x < 10 ^ B) → S0.length ≤ o → Ext S0 S →
    (∀ S' v5, Mch S' o b a size deep ks → S'[o]? = some (some (.ins "Machine" (mf b (runN deep ks ls r s) l a))) → Ext S0 S' → Q .nx [v0, v1, v2, v3, some (.ob o), v5] S') → OkS (loopL (tgName 5) L_run_1 ((r.map Ky.s).map .str) [v0, v1, v2, v3, some (.ob o), v5] S) Q
  | [], s, S, B, v5, m, e, h2, h6, hB2, hB, hb, hls, hS, ex, h => OkS.lnil (h S v5 m e ex)
  | k :: r, s, S, B, v5, m, e, h2, h6, hB2, hB, hb, hls, hS, ex, h => by
    have hk : kB k B ≤ rB r (kB k B) := rB_ge r _ (Nat.le_trans (by omega) (kB_le k B (by omega)))
    have hkB := kB_le k B (by omega)
    have hB' : rB r (kB k B) ≤ 9000 := hB
    simp only [List.map_cons]
    refine OkS.lcons ?_
    unfold L_run_1
    and_intros
    refine ⟨_, _, rfl, e, rfl, ?_⟩
    and_intros
    refine (press' m e h2 h6 hB2 (by omega) hb hl k).imp ?_
    rintro d S' ⟨rfl, rfl⟩
    and_intros
    have e2 := pressN_len (deep := deep) (ks := ks) (l := ls) (k := k) h2
    exact run_loop hl r m.set (List.getElem?_set_self m.lt) (by omega) (by omega) (by omega) hB' (pressN_bnd hB2 hls hb k) (fun x hx => pow_up (hls x hx) hkB) hS (ex.set hS) h
theorem run_ok {ls : List Int} (hl : Lets l ls) (r : List Ky) (hb : S[b]? = some (some (.ins "Box" (bf size deep ks)))) (sub : ∀ k ∈ ks, k ∈ KEEPS) (h2 : 2 ≤ s.lv.length) (h6 : s.lv.length ≤ 6) {B : Nat} (hB2 : 2 ≤ B) (hB : rB r B ≤ 9000) (hx : bnds B s) (hls : ∀ x ∈ ls, Int.natAbs x < 10 ^ B) :
    Ok (F_run [.ob b, stD s, rowD r, l] S) fun d S' => d = stD (runN deep ks ls r s) ∧ Ext S S' := by
  have lb := (List.getElem?_eq_some_iff.mp hb).1
  with_reducible refine Ok.def_ ?_
  simp only [frame0, List.map_cons, List.map_nil, List.length_cons, List.length_nil, Nat.reduceAdd, Nat.reduceSub, Nat.zero_add, List.reduceReplicate, List.cons_append, List.nil_append]
  unfold B_run
  and_intros
  refine Ok.mak ?_
  and_intros
  obtain ⟨S1, hS1⟩ : ∃ S1, S ++ [some (O.ins "Whole" [])] ++ [some (O.ins "Machine" [])] = S1 := ⟨_, rfl⟩
  have hlen : S1.length = S.length + 2 := by rw [← hS1]; simp
  have ho : (S ++ [some (O.ins "Whole" [])]).length = S.length + 1 := by simp
  rw [hS1, ho]
  have e1 : S1[S.length + 1]? = some (some (.ins "Machine" [])) := by rw [← hS1]; simp
  have ext : Ext S S1 := by rw [← hS1, List.append_assoc]; exact ⟨_, rfl⟩
  have m : Mch S1 (S.length + 1) b S.length size deep ks := ⟨by omega, by omega, by omega, ext.get hb, by rw [← hS1, List.append_assoc]; simp, sub⟩
  rw [set_self e1]
  refine (init_ m.lt).imp ?_
  rintro d S' ⟨rfl, rfl⟩
  refine ⟨rfl, ?_⟩
  and_intros
  unfold rowD
  and_intros
  refine run_loop (S0 := S) hl r m.set (List.getElem?_set_self m.lt) h2 h6 hB2 hB hx hls (by omega) (ext.set (by omega)) ?_
  intro S' v5 m' e' ex'
  and_intros
  refine ⟨_, _, rfl, e', rfl, ?_⟩
  and_intros
  rw [set_self e']
  refine (parts_ m'.lt).imp ?_
  rintro d S2 ⟨rfl, rfl⟩
  and_intros
  rw [← set_self e']
  exact ⟨rfl, ex'⟩
end
end DL.Lb
namespace DL.Lb
open PySem PySem.Spec PyProof.Rows L2 DL
local macro_rules | `(tactic| and_intros) => `(tactic| repeat (first | ((with_reducible refine Ok.fldM ?_ ?_ ?_); (assumption); (exact c_M); (first | refine ⟨_, g_stack, ?_⟩ | refine ⟨_, g_kept, ?_⟩ | refine ⟨_, g_store, ?_⟩ | refine ⟨_, g_way, ?_⟩ | refine ⟨_, g_keyed, ?_⟩ | refine ⟨_, g_arith, ?_⟩ | refine ⟨_, g_rules, ?_⟩)) | ((with_reducible refine Ok.setM ?_ ?_ ?_ ?_); (assumption); (exact c_M); (exact mf_len); (first | refine ⟨_, p_stack, ?_⟩ | refine ⟨_, p_kept, ?_⟩ | refine ⟨_, p_store, ?_⟩ | refine ⟨_, p_way, ?_⟩)) | with_reducible refine Ok.sl_d1 ?_ | with_reducible refine Ok.sl_d2 ?_ | with_reducible refine Ok.sl_t1 ?_ | with_reducible refine Ok.sl_dl ?_ | with_reducible refine Ok.sl_l1 ?_ | ((with_reducible refine Ok.ad_1m ?_ ?_); (simp; omega)) | ((with_reducible refine Ok.ad_2m ?_ ?_); (simp; omega)) | ((with_reducible refine Ok.ad_m1 ?_ ?_); (simp; omega)) | ((with_reducible refine Ok.ad_mm ?_ ?_); (simp; omega)) | ((with_reducible refine Ok.ixm0 ?_ ?_); (omega)) | ((with_reducible refine Ok.ixm1 ?_ ?_); (omega)) | ((with_reducible refine Ok.ixm9 ?_ ?_); (omega)) | with_reducible refine const_ ?_ | with_reducible refine plus_ ?_ | with_reducible refine minus_ ?_ | with_reducible refine Ok.mtd1 ?_ | with_reducible refine Ok.prp1 ?_ | refine ⟨_, _, rfl, (List.getElem?_set_ne (by assumption)).trans (by assumption), rfl, ?_⟩ | refine ⟨_, _, rfl, List.getElem?_set_self (by assumption), rfl, ?_⟩ | refine ⟨_, _, rfl, (List.getElem?_set_ne (by assumption)).trans (by assumption), ?_⟩ | with_reducible refine deepest_ ((List.getElem?_set_ne (by assumption)).trans (by assumption)) ?_ | with_reducible refine keeps_ ((List.getElem?_set_ne (by assumption)).trans (by assumption)) ?_ | with_reducible refine Ok.sli_tail ?_ | ((with_reducible refine Ok.var ?_); refine ⟨_, rfl, ?_⟩) | ((with_reducible refine Fr.go ?_); intro fr_ e_; simp only [List.set_cons_zero, List.set_cons_succ, setAll, wipeF] at e_; subst e_) | with_reducible refine Ok.bin ?_ | with_reducible refine Ok.calp ?_ | with_reducible refine Ok.cal ?_ | with_reducible refine Ok.cst ?_ | with_reducible refine Ok.acons ?_ | with_reducible refine Ok.anil ?_ | with_reducible refine Ok.un ?_ | with_reducible refine Ok.tb ?_ | with_reducible refine Ok.tsb ?_ | with_reducible refine OkS.seq ?_ | with_reducible refine OkS.asg ?_ | with_reducible refine Then.nx ?_ | with_reducible refine Then.rt ?_ | with_reducible refine OkS.ifS ?_ | with_reducible refine Ok.notF ?_ | with_reducible refine Ok.andF ?_ | with_reducible refine Ok.orF ?_ | with_reducible refine Ok.ite ?_ | with_reducible refine Br.t ?_ | with_reducible refine Br.f ?_ | with_reducible refine Br.not ?_ | ((with_reducible refine OkS.aug ?_); refine ⟨_, rfl, ?_⟩) | ((with_reducible refine Ok.ix_t ?_); refine ⟨_, rfl, ?_⟩) | ((with_reducible refine Ok.ix_l ?_); refine ⟨_, rfl, ?_⟩) | ((with_reducible refine Ok.tgT ?_ ?_); exact rfl) | with_reducible refine Ok.tup ?_ | with_reducible refine Ok.lst ?_ | with_reducible refine Ok.lstO ?_ | with_reducible refine Ok.tst ?_ | with_reducible refine Ok.tru_bl ?_ | with_reducible refine Ok.tru_non ?_ | with_reducible refine Ok.tru_tup ?_ | with_reducible refine Ok.tru_lst ?_ | with_reducible refine Ok.tru_int ?_ | with_reducible refine Ok.boolF ?_ | with_reducible refine Ok.andV ?_ | with_reducible refine Ok.orV ?_ | with_reducible refine Ok.notV ?_ | with_reducible refine Ok.yes ?_ | with_reducible refine Ok.prtN ?_ | with_reducible refine Ok.prtS ?_ | with_reducible refine Ok.sli ?_ | with_reducible refine Ok.chF ?_ | with_reducible refine Ok.exi ?_ | with_reducible refine Ok.exb ?_ | with_reducible refine Ok.add_ii ?_ | with_reducible refine Ok.sub_ii ?_ | with_reducible refine Ok.neg_i ?_ | with_reducible refine Ok.lt_ii ?_ | with_reducible refine Ok.le_ii ?_ | with_reducible refine Ok.gt_ii ?_ | with_reducible refine Ok.ge_ii ?_ | with_reducible refine Ok.eq_ii ?_ | with_reducible refine Ok.ne_ii ?_ | with_reducible refine Ok.eq_ss ?_ | with_reducible refine Ok.ne_ss ?_ | with_reducible refine Ok.in_ss ?_ | with_reducible refine Ok.nin_ss ?_ | with_reducible refine Ok.is_nn ?_ | with_reducible refine Ok.int_i ?_ | with_reducible refine Ok.int_b ?_ | with_reducible refine Ok.str_s ?_ | with_reducible refine Ok.max_ii ?_ | with_reducible refine Ok.min_ii ?_ | with_reducible refine Ok.len_t ?_ | with_reducible refine Ok.len_l ?_ | with_reducible refine Ok.tup_t ?_ | with_reducible refine Ok.tup_l ?_ | with_reducible refine Ok.lst_t ?_ | with_reducible refine Ok.lst_l ?_ | with_reducible refine Ok.sli_t ?_ | with_reducible refine Ok.sli_l ?_ | with_reducible refine OkS.ret ?_ | with_reducible refine OkS.retN ?_ | with_reducible refine OkS.expr ?_ | with_reducible refine OkS.nx ?_ | with_reducible refine OkS.bk ?_ | with_reducible refine OkS.ct ?_ | with_reducible refine Then.bk ?_ | with_reducible refine Then.ct ?_ | with_reducible refine Rt.rt ?_ | with_reducible refine Rt.nx ?_ | with_reducible refine Lp.nx ?_ | with_reducible refine Lp.ct ?_ | with_reducible refine Lp.bk ?_ | with_reducible refine Lp.rt ?_ | with_reducible refine OkS.asgG ?_ | with_reducible refine OkS.par ?_ | with_reducible refine Ok.iadd_ii ?_ | with_reducible refine Ok.isub_ii ?_ | with_reducible refine Ok.tgN ?_ | with_reducible refine Ok.tgA0 ?_ | with_reducible refine Ok.tgA ?_ | with_reducible refine Ok.tgSub ?_ | with_reducible refine Ok.rngF ?_ | with_reducible refine Ok.cmpD ?_ | with_reducible refine Ok.cmpO ?_ | with_reducible refine Ok.ret ?_ | with_reducible refine Ok.ok ?_ | with_reducible refine Ok.newO ?_ | with_reducible refine Ok.bnd ?_ | with_reducible refine OkS.fore ?_ | with_reducible refine Ok.cmpe ?_ | with_reducible refine Ok.itT ?_ | with_reducible refine ItQ.tup ?_ | with_reducible refine ItQ.lst ?_ | with_reducible refine ItQ.ctu ?_ | with_reducible refine SrcQ.con ?_ | with_reducible refine SrcQ.tup ?_ | with_reducible refine SrcQ.lst ?_ | with_reducible refine SrcQ.ctu ?_ | ((with_reducible refine Ok.mod_ii ?_ ?_); (first | decide | (simp; done) | (simp; omega))) | ((with_reducible refine Ok.add_tt ?_ ?_); (first | decide | (simp; done) | (simp; omega))) | ((with_reducible refine Ok.add_ll ?_ ?_); (first | decide | (simp; done) | (simp; omega))) | ((with_reducible refine Ok.add_ss ?_ ?_); (first | decide | (simp; done) | (simp; omega))) | ((with_reducible refine Ok.rng1 ?_ ?_); (first | decide | omega | (simp; omega))) | ((with_reducible refine Br.dt ?_ ?_); (first | assumption | exact rfl | omega | decide +kernel)) | ((with_reducible refine Br.df ?_ ?_); (first | assumption | omega | decide +kernel)) | ((with_reducible refine Br.tt ?_ ?_); (first | assumption | decide +kernel)) | ((with_reducible refine Br.ff ?_ ?_); (first | assumption | decide +kernel)) | with_reducible refine Ok.is_in ?_ | with_reducible refine Ok.is_tn ?_ | with_reducible refine Ok.is_bn ?_ | with_reducible refine Ok.is_sn ?_ | with_reducible refine Ok.nis_in ?_ | with_reducible refine Ok.nis_tn ?_ | with_reducible refine Ok.nis_bn ?_ | with_reducible refine Ok.nis_sn ?_ | with_reducible refine OkS.lcons ?_ | with_reducible refine OkS.lnil ?_ | with_reducible refine Ok.icons ?_ | with_reducible refine Ok.inil ?_ | with_reducible refine Ok.is_bb ?_ | with_reducible refine Ok.nis_bb ?_ | with_reducible refine Ok.nis_nn ?_ | with_reducible refine Ok.pcons ?_ | with_reducible refine Ok.pnil ?_ | with_reducible refine Ok.dctK ?_ | with_reducible refine Ok.tgDic ?_ | with_reducible refine Ok.fld ?_ | with_reducible refine Ok.tgAtt ?_ | with_reducible refine Ok.makO ?_ | ((with_reducible refine Ok.isi_tup (p := true) ?_ ?_); decide +kernel) | ((with_reducible refine Ok.isi_tup (p := false) ?_ ?_); decide +kernel) | ((with_reducible refine Ok.isi_int (p := true) ?_ ?_); decide +kernel) | ((with_reducible refine Ok.isi_int (p := false) ?_ ?_); decide +kernel) | ((with_reducible refine Ok.isi_str (p := true) ?_ ?_); decide +kernel) | ((with_reducible refine Ok.isi_str (p := false) ?_ ?_); decide +kernel) | ((with_reducible refine Ok.isi_lst (p := true) ?_ ?_); decide +kernel) | ((with_reducible refine Ok.isi_lst (p := false) ?_ ?_); decide +kernel) | ((with_reducible refine Ok.isi_bl (p := true) ?_ ?_); decide +kernel) | ((with_reducible refine Ok.isi_bl (p := false) ?_ ?_); decide +kernel) | ((with_reducible refine Ok.isi_non (p := true) ?_ ?_); decide +kernel) | ((with_reducible refine Ok.isi_non (p := false) ?_ ?_); decide +kernel) | ((with_reducible refine Ok.isi_ctu (p := true) ?_ ?_); decide +kernel) | ((with_reducible refine Ok.isi_ctu (p := false) ?_ ?_); decide +kernel) | ((with_reducible refine Ok.isi_emp (p := true) ?_ ?_); decide +kernel) | ((with_reducible refine Ok.isi_emp (p := false) ?_ ?_); decide +kernel) | (with_reducible refine Ok.disp ?_)))
section
variable {S0 S : Store} {o b a f : Nat} {size : Int} {deep : Str} {ks : List Str} {s : St} {l : D} {i : Int}
theorem tyR_lst {S : Store} {n : Nat} {l : List D} (h : S[n]? = some (some (.lst l))) : tyR S "list" (.ob n) = true := by
  unfold tyR
  simp only [h]
  rfl
theorem shown_loop {ls : List Int} (hl : Lets l ls) {v0 v1 v2 v3 : Option D} {Q : Fl → Frame → Store → Prop} (hfb : f ≠ b) (hfa : f ≠ a) (hfo : f ≠ o) : ∀ (r : List Ky) {s : St} {S : Store} {B : Nat} {v6 : Option D} {ns : List Int}, Mch S o b a size deep ks → S[o]? = some (some (.ins "Machine" (mf b s l a))) → S[f]? = some (some (.lst (ns.map .int))) → ns.length + r.length ≤ 900 → 2 ≤ s.lv.length → s.lv.length ≤ 6 → 2 ≤ B → rB r B ≤ 9000 → bnds B s → (∀ x ∈ ls, Int.natAbs x < 10 ^ B) → S0.length ≤ o → S0.length ≤ f → Ext S0 S →
    (∀ S' v6, S'[f]? = some (some (.lst ((ns ++ shownN deep ks ls r s).map .int))) → Ext S0 S' → Q .nx [v0, v1, v2, v3, some (.ob o), some (.ob f), v6] S') → OkS (loopL (tgName 6) L_shown_1 ((r.map Ky.s).map .str) [v0, v1, v2, v3, some (.ob o), some (.ob f), v6] S) Q
  | [], s, S, B, v6, ns, m, e, ef, hn, h2, h6, hB2, hB, hb, hls, hS, hSf, ex, h => OkS.lnil (h S v6 (by simpa [shownN] using ef) ex)
  | k :: r, s, S, B, v6, ns, m, e, ef, hn, h2, h6, hB2, hB, hb, hls, hS, hSf, ex, h => by
    have hk : kB k B ≤ rB r (kB k B) := rB_ge r _ (Nat.le_trans (by omega) (kB_le k B (by omega)))
    have hkB := kB_le k B (by omega)
    have hB' : rB r (kB k B) ≤ 9000 := hB
    simp only [List.length_cons] at hn
    simp only [List.map_cons]
    refine OkS.lcons ?_
    unfold L_shown_1
    and_intros
    refine ⟨_, _, rfl, e, rfl, ?_⟩
    and_intros
    refine (press' m e h2 h6 hB2 (by omega) hb hl k).imp ?_
    rintro d S' ⟨rfl, rfl⟩
    have e2 := pressN_len (deep := deep) (ks := ks) (l := ls) (k := k) h2
    have lt := m.lt
    have ef2 : (S.set o (some (.ins "Machine" (mf b (pressN deep ks ls k s) l a))))[f]? = some (some (.lst (ns.map .int))) := (List.getElem?_set_ne hfo.symm).trans ef
    and_intros
    refine Ok.met ?_
    and_intros
    refine ⟨tyR_lst ef2, ?_⟩
    and_intros
    refine Ok.app_o ef2 (by simp; omega) ?_
    and_intros
    have m2 : Mch ((S.set o (some (.ins "Machine" (mf b (pressN deep ks ls k s) l a)))).set f (some (.lst (ns.map .int ++ [.int ((pressN deep ks ls k s).lv.getD 0 0)])))) o b a size deep ks := m.set.setf hfb hfa
    have e3 : ((S.set o (some (.ins "Machine" (mf b (pressN deep ks ls k s) l a)))).set f (some (.lst (ns.map .int ++ [.int ((pressN deep ks ls k s).lv.getD 0 0)]))))[o]? = some (some (.ins "Machine" (mf b (pressN deep ks ls k s) l a))) := (List.getElem?_set_ne hfo).trans (List.getElem?_set_self lt)
    have e4 : ((S.set o (some (.ins "Machine" (mf b (pressN deep ks ls k s) l a)))).set f (some (.lst (ns.map .int ++ [.int ((pressN deep ks ls k s).lv.getD 0 0)]))))[f]? = some (some (.lst ((ns ++ [(pressN deep ks ls k s).lv.getD 0 0]).map .int))) := by
      rw [List.getElem?_set_self (List.getElem?_eq_some_iff.mp ef2).1]
      simp
    refine shown_loop hl hfb hfa hfo r m2 e3 e4 (by simp; omega) (by omega) (by omega) (by omega) hB' (pressN_bnd hB2 hls hb k) (fun x hx => pow_up (hls x hx) hkB) hS hSf ((ex.set hS).set hSf) ?_
    intro S' v6' e5 ex5
    exact h S' v6' (by rw [List.append_assoc] at e5; exact e5) ex5
theorem shown_ok {ls : List Int} (hl : Lets l ls) (r : List Ky) (hr : r.length ≤ 800) (hb : S[b]? = some (some (.ins "Box" (bf size deep ks)))) (sub : ∀ k ∈ ks, k ∈ KEEPS) (h2 : 2 ≤ s.lv.length) (h6 : s.lv.length ≤ 6) {B : Nat} (hB2 : 2 ≤ B) (hB : rB r B ≤ 9000) (hx : bnds B s) (hls : ∀ x ∈ ls, Int.natAbs x < 10 ^ B) :
    Ok (F_shown [.ob b, stD s, rowD r, l] S) fun d S' => d = .tup ((shownN deep ks ls r s).map .int) ∧ Ext S S' := by
  have lb := (List.getElem?_eq_some_iff.mp hb).1
  with_reducible refine Ok.def_ ?_
  simp only [frame0, List.map_cons, List.map_nil, List.length_cons, List.length_nil, Nat.reduceAdd, Nat.reduceSub, Nat.zero_add, List.reduceReplicate, List.cons_append, List.nil_append]
  unfold B_shown
  and_intros
  refine Ok.mak ?_
  and_intros
  obtain ⟨S1, hS1⟩ : ∃ S1, S ++ [some (O.ins "Whole" [])] ++ [some (O.ins "Machine" [])] = S1 := ⟨_, rfl⟩
  have hlen : S1.length = S.length + 2 := by rw [← hS1]; simp
  have ho : (S ++ [some (O.ins "Whole" [])]).length = S.length + 1 := by simp
  rw [hS1, ho]
  have e1 : S1[S.length + 1]? = some (some (.ins "Machine" [])) := by rw [← hS1]; simp
  have ext : Ext S S1 := by rw [← hS1, List.append_assoc]; exact ⟨_, rfl⟩
  have m : Mch S1 (S.length + 1) b S.length size deep ks := ⟨by omega, by omega, by omega, ext.get hb, by rw [← hS1, List.append_assoc]; simp, sub⟩
  rw [set_self e1]
  refine (init_ m.lt).imp ?_
  rintro d S' ⟨rfl, rfl⟩
  refine ⟨rfl, ?_⟩
  and_intros
  unfold rowD
  and_intros
  obtain ⟨S2, hS2⟩ : ∃ S2, (S1.set (S.length + 1) (some (O.ins "Machine" (mf b s l S.length)))) ++ [some (O.lst [])] = S2 := ⟨_, rfl⟩
  have hlen2 : (S1.set (S.length + 1) (some (O.ins "Machine" (mf b s l S.length)))).length = S.length + 2 := by simp [hlen]
  rw [hS2, hlen2]
  have ext2 : Ext (S1.set (S.length + 1) (some (O.ins "Machine" (mf b s l S.length)))) S2 := by rw [← hS2]; exact Ext.app
  have m2 : Mch S2 (S.length + 1) b S.length size deep ks := ⟨by rw [← hS2]; simp; omega, m.nb, m.na, ext2.get m.set.box, ext2.get m.set.ar, sub⟩
  refine shown_loop (S0 := S) (ns := []) hl (by omega) (by omega) (by omega) r m2 (ext2.get (List.getElem?_set_self m.lt)) (by rw [← hS2, ← hlen2, List.getElem?_append_right (Nat.le_refl _)]; simp) (by simp; omega) h2 h6 hB2 hB hx hls (by omega) (by omega) ((ext.set (by omega)).trans ext2) ?_
  intro S' v6 e' ex'
  and_intros
  refine Ok.tup_o e' ?_
  and_intros
  exact ⟨by simp, ex'⟩
end
end DL.Lb
namespace DL.Lb
open PySem PySem.Spec PyProof.Rows L2 DL
/-! ### the law's own walk of the keys -/
def wf (r : D) (s : St) (l : D) : List (Key × D) := [(.inr "rules", r), (.inr "levels", .lst (s.lv.map .int)), (.inr "last", .int s.kp), (.inr "memory", .int s.mem), (.inr "mode", .str s.way), (.inr "letters", l)]
section
variable {r l d : D} {s : St} {x : List Int} {i : Int} {w : Str}
theorem w_rules : keyD (.str "rules") = some (.inr "rules") ∧ valD (wf r s l) (.inr "rules" : Key) = some r := ⟨rfl, rfl⟩
theorem w_levels : keyD (.str "levels") = some (.inr "levels") ∧ valD (wf r s l) (.inr "levels" : Key) = some (.lst (s.lv.map .int)) := ⟨rfl, rfl⟩
theorem w_last : keyD (.str "last") = some (.inr "last") ∧ valD (wf r s l) (.inr "last" : Key) = some (.int s.kp) := ⟨rfl, rfl⟩
theorem w_memory : keyD (.str "memory") = some (.inr "memory") ∧ valD (wf r s l) (.inr "memory" : Key) = some (.int s.mem) := ⟨rfl, rfl⟩
theorem w_mode : keyD (.str "mode") = some (.inr "mode") ∧ valD (wf r s l) (.inr "mode" : Key) = some (.str s.way) := ⟨rfl, rfl⟩
theorem w_letters : keyD (.str "letters") = some (.inr "letters") ∧ valD (wf r s l) (.inr "letters" : Key) = some l := ⟨rfl, rfl⟩
theorem q_levels : putKD (wf r s l) (.inr "levels" : Key) (.lst (x.map .int)) = wf r ⟨x, s.kp, s.mem, s.way⟩ l := rfl
theorem q_last : putKD (wf r s l) (.inr "last" : Key) (.int i) = wf r ⟨s.lv, i, s.mem, s.way⟩ l := rfl
theorem q_memory : putKD (wf r s l) (.inr "memory" : Key) (.int i) = wf r ⟨s.lv, s.kp, i, s.way⟩ l := rfl
theorem q_mode : putKD (wf r s l) (.inr "mode" : Key) (.str w) = wf r ⟨s.lv, s.kp, s.mem, w⟩ l := rfl
theorem wf_len : (wf r s l).length < 100000 := by show 6 < 100000; decide
end
local macro_rules | `(tactic| and_intros) => `(tactic| repeat (first | ((with_reducible refine Ok.dgetM ?_ ?_); (assumption); (first | refine ⟨_, _, rfl, w_levels.2, ?_⟩ | refine ⟨_, _, rfl, w_rules.2, ?_⟩ | refine ⟨_, _, rfl, w_mode.2, ?_⟩ | refine ⟨_, _, rfl, w_last.2, ?_⟩ | refine ⟨_, _, rfl, w_memory.2, ?_⟩ | refine ⟨_, _, rfl, w_letters.2, ?_⟩)) | ((with_reducible refine Ok.dsetM ?_ ?_ ?_); (assumption); (exact wf_len); (first | refine ⟨_, _, rfl, q_levels, ?_⟩ | refine ⟨_, _, rfl, q_mode, ?_⟩ | refine ⟨_, _, rfl, q_last, ?_⟩ | refine ⟨_, _, rfl, q_memory, ?_⟩)) | with_reducible refine Ok.sll_d1 ?_ | with_reducible refine Ok.sll_d2 ?_ | with_reducible refine Ok.sll_t1 ?_ | with_reducible refine Ok.sll_dl ?_ | with_reducible refine Ok.sll_l1 ?_ | ((with_reducible refine Ok.al_1m ?_ ?_); (simp; omega)) | ((with_reducible refine Ok.al_2m ?_ ?_); (simp; omega)) | ((with_reducible refine Ok.al_m1 ?_ ?_); (simp; omega)) | ((with_reducible refine Ok.al_mm ?_ ?_); (simp; omega)) | ((with_reducible refine Ok.ixl0 ?_ ?_); (omega)) | ((with_reducible refine Ok.ixl1 ?_ ?_); (omega)) | ((with_reducible refine Ok.ixl9 ?_ ?_); (omega)) | with_reducible refine Ok.sli_tail ?_ | ((with_reducible refine Ok.var ?_); refine ⟨_, rfl, ?_⟩) | ((with_reducible refine Fr.go ?_); intro fr_ e_; simp only [List.set_cons_zero, List.set_cons_succ, setAll, wipeF] at e_; subst e_) | with_reducible refine Ok.bin ?_ | with_reducible refine Ok.calp ?_ | with_reducible refine Ok.cal ?_ | with_reducible refine Ok.cst ?_ | with_reducible refine Ok.acons ?_ | with_reducible refine Ok.anil ?_ | with_reducible refine Ok.un ?_ | with_reducible refine Ok.tb ?_ | with_reducible refine Ok.tsb ?_ | with_reducible refine OkS.seq ?_ | with_reducible refine OkS.asg ?_ | with_reducible refine Then.nx ?_ | with_reducible refine Then.rt ?_ | with_reducible refine OkS.ifS ?_ | with_reducible refine Ok.notF ?_ | with_reducible refine Ok.andF ?_ | with_reducible refine Ok.orF ?_ | with_reducible refine Ok.ite ?_ | with_reducible refine Br.t ?_ | with_reducible refine Br.f ?_ | with_reducible refine Br.not ?_ | ((with_reducible refine OkS.aug ?_); refine ⟨_, rfl, ?_⟩) | ((with_reducible refine Ok.ix_t ?_); refine ⟨_, rfl, ?_⟩) | ((with_reducible refine Ok.ix_l ?_); refine ⟨_, rfl, ?_⟩) | ((with_reducible refine Ok.tgT ?_ ?_); exact rfl) | with_reducible refine Ok.tup ?_ | with_reducible refine Ok.lst ?_ | with_reducible refine Ok.lstO ?_ | with_reducible refine Ok.tst ?_ | with_reducible refine Ok.tru_bl ?_ | with_reducible refine Ok.tru_non ?_ | with_reducible refine Ok.tru_tup ?_ | with_reducible refine Ok.tru_lst ?_ | with_reducible refine Ok.tru_int ?_ | with_reducible refine Ok.boolF ?_ | with_reducible refine Ok.andV ?_ | with_reducible refine Ok.orV ?_ | with_reducible refine Ok.notV ?_ | with_reducible refine Ok.yes ?_ | with_reducible refine Ok.prtN ?_ | with_reducible refine Ok.prtS ?_ | with_reducible refine Ok.sli ?_ | with_reducible refine Ok.chF ?_ | with_reducible refine Ok.exi ?_ | with_reducible refine Ok.exb ?_ | with_reducible refine Ok.add_ii ?_ | with_reducible refine Ok.sub_ii ?_ | with_reducible refine Ok.neg_i ?_ | with_reducible refine Ok.lt_ii ?_ | with_reducible refine Ok.le_ii ?_ | with_reducible refine Ok.gt_ii ?_ | with_reducible refine Ok.ge_ii ?_ | with_reducible refine Ok.eq_ii ?_ | with_reducible refine Ok.ne_ii ?_ | with_reducible refine Ok.eq_ss ?_ | with_reducible refine Ok.ne_ss ?_ | with_reducible refine Ok.in_ss ?_ | with_reducible refine Ok.nin_ss ?_ | with_reducible refine Ok.is_nn ?_ | with_reducible refine Ok.int_i ?_ | with_reducible refine Ok.int_b ?_ | with_reducible refine Ok.str_s ?_ | with_reducible refine Ok.max_ii ?_ | with_reducible refine Ok.min_ii ?_ | with_reducible refine Ok.len_t ?_ | with_reducible refine Ok.len_l ?_ | with_reducible refine Ok.tup_t ?_ | with_reducible refine Ok.tup_l ?_ | with_reducible refine Ok.lst_t ?_ | with_reducible refine Ok.lst_l ?_ | with_reducible refine Ok.sli_t ?_ | with_reducible refine Ok.sli_l ?_ | with_reducible refine OkS.ret ?_ | with_reducible refine OkS.retN ?_ | with_reducible refine OkS.expr ?_ | with_reducible refine OkS.nx ?_ | with_reducible refine OkS.bk ?_ | with_reducible refine OkS.ct ?_ | with_reducible refine Then.bk ?_ | with_reducible refine Then.ct ?_ | with_reducible refine Rt.rt ?_ | with_reducible refine Rt.nx ?_ | with_reducible refine Lp.nx ?_ | with_reducible refine Lp.ct ?_ | with_reducible refine Lp.bk ?_ | with_reducible refine Lp.rt ?_ | with_reducible refine OkS.asgG ?_ | with_reducible refine OkS.par ?_ | with_reducible refine Ok.iadd_ii ?_ | with_reducible refine Ok.isub_ii ?_ | with_reducible refine Ok.tgN ?_ | with_reducible refine Ok.tgA0 ?_ | with_reducible refine Ok.tgA ?_ | with_reducible refine Ok.tgSub ?_ | with_reducible refine Ok.rngF ?_ | with_reducible refine Ok.cmpD ?_ | with_reducible refine Ok.cmpO ?_ | with_reducible refine Ok.ret ?_ | with_reducible refine Ok.ok ?_ | with_reducible refine Ok.newO ?_ | with_reducible refine Ok.bnd ?_ | with_reducible refine OkS.fore ?_ | with_reducible refine Ok.cmpe ?_ | with_reducible refine Ok.itT ?_ | with_reducible refine ItQ.tup ?_ | with_reducible refine ItQ.lst ?_ | with_reducible refine ItQ.ctu ?_ | with_reducible refine SrcQ.con ?_ | with_reducible refine SrcQ.tup ?_ | with_reducible refine SrcQ.lst ?_ | with_reducible refine SrcQ.ctu ?_ | ((with_reducible refine Ok.mod_ii ?_ ?_); (first | decide | (simp; done) | (simp; omega))) | ((with_reducible refine Ok.add_tt ?_ ?_); (first | decide | (simp; done) | (simp; omega))) | ((with_reducible refine Ok.add_ll ?_ ?_); (first | decide | (simp; done) | (simp; omega))) | ((with_reducible refine Ok.add_ss ?_ ?_); (first | decide | (simp; done) | (simp; omega))) | ((with_reducible refine Ok.rng1 ?_ ?_); (first | decide | omega | (simp; omega))) | ((with_reducible refine Br.dt ?_ ?_); (first | assumption | exact rfl | omega | decide +kernel)) | ((with_reducible refine Br.df ?_ ?_); (first | assumption | omega | decide +kernel)) | ((with_reducible refine Br.tt ?_ ?_); (first | assumption | decide +kernel)) | ((with_reducible refine Br.ff ?_ ?_); (first | assumption | decide +kernel)) | with_reducible refine Ok.is_in ?_ | with_reducible refine Ok.is_tn ?_ | with_reducible refine Ok.is_bn ?_ | with_reducible refine Ok.is_sn ?_ | with_reducible refine Ok.nis_in ?_ | with_reducible refine Ok.nis_tn ?_ | with_reducible refine Ok.nis_bn ?_ | with_reducible refine Ok.nis_sn ?_ | with_reducible refine OkS.lcons ?_ | with_reducible refine OkS.lnil ?_ | with_reducible refine Ok.icons ?_ | with_reducible refine Ok.inil ?_ | with_reducible refine Ok.is_bb ?_ | with_reducible refine Ok.nis_bb ?_ | with_reducible refine Ok.nis_nn ?_ | with_reducible refine Ok.pcons ?_ | with_reducible refine Ok.pnil ?_ | with_reducible refine Ok.dctK ?_ | with_reducible refine Ok.tgDic ?_ | with_reducible refine Ok.fld ?_ | with_reducible refine Ok.tgAtt ?_ | with_reducible refine Ok.makO ?_ | ((with_reducible refine Ok.isi_tup (p := true) ?_ ?_); decide +kernel) | ((with_reducible refine Ok.isi_tup (p := false) ?_ ?_); decide +kernel) | ((with_reducible refine Ok.isi_int (p := true) ?_ ?_); decide +kernel) | ((with_reducible refine Ok.isi_int (p := false) ?_ ?_); decide +kernel) | ((with_reducible refine Ok.isi_str (p := true) ?_ ?_); decide +kernel) | ((with_reducible refine Ok.isi_str (p := false) ?_ ?_); decide +kernel) | ((with_reducible refine Ok.isi_lst (p := true) ?_ ?_); decide +kernel) | ((with_reducible refine Ok.isi_lst (p := false) ?_ ?_); decide +kernel) | ((with_reducible refine Ok.isi_bl (p := true) ?_ ?_); decide +kernel) | ((with_reducible refine Ok.isi_bl (p := false) ?_ ?_); decide +kernel) | ((with_reducible refine Ok.isi_non (p := true) ?_ ?_); decide +kernel) | ((with_reducible refine Ok.isi_non (p := false) ?_ ?_); decide +kernel) | ((with_reducible refine Ok.isi_ctu (p := true) ?_ ?_); decide +kernel) | ((with_reducible refine Ok.isi_ctu (p := false) ?_ ?_); decide +kernel) | ((with_reducible refine Ok.isi_emp (p := true) ?_ ?_); decide +kernel) | ((with_reducible refine Ok.isi_emp (p := false) ?_ ?_); decide +kernel) | (with_reducible refine Ok.disp ?_)))
section
variable {S0 S : Store} {o : Nat} {size : Int} {deep : Str} {ks : List Str} {s : St} {l r : D} {i : Int}
theorem x_come_in (lt : o < S0.length) (h2 : 2 ≤ s.lv.length) (h6 : s.lv.length ≤ 6) : Ok (F_x_come_in [.ob o, .int i] (S0.set o (some (.dk (wf r s l))))) fun d S' => d = .non ∧ S' = S0.set o (some (.dk (wf r (s.come i) l))) := by
  with_reducible refine Ok.def_ ?_
  simp only [frame0, List.map_cons, List.map_nil, List.length_cons, List.length_nil, Nat.reduceAdd, Nat.reduceSub, Nat.zero_add, List.reduceReplicate, List.cons_append, List.nil_append]
  unfold B_x_come_in
  and_intros
  refine Br.spd (fun c => ?_) (fun c => ?_)
  · and_intros
    exact ⟨rfl, by simp only [St.come, comeL, if_pos c]⟩
  · and_intros
    exact ⟨rfl, by simp only [St.come, comeL, if_neg c]⟩
theorem x_move (lt : o < S0.length) (h2 : 2 ≤ s.lv.length) (h6 : s.lv.length ≤ 6) : ∀ k : Ky, k = .swap ∨ k = .down ∨ k = .up ∨ k = .last ∨ k = .put ∨ k = .get → Ok (F_x_move [.ob o, .str k.s] (S0.set o (some (.dk (wf r s l))))) fun d S' => d = .non ∧ S' = S0.set o (some (.dk (wf r ⟨(pressS deep x k s).lv, s.kp, (pressS deep x k s).mem, s.way⟩ l))) := by
  intro k hk
  rcases hk with rfl | rfl | rfl | rfl | rfl | rfl
  · show Ok (F_x_move [.ob o, .str "swap"] _) _
    with_reducible refine Ok.def_ ?_
    simp only [frame0, List.map_cons, List.map_nil, List.length_cons, List.length_nil, Nat.reduceAdd, Nat.reduceSub, Nat.zero_add, List.reduceReplicate, List.cons_append, List.nil_append]
    unfold B_x_move
    and_intros
    exact ⟨rfl, rfl⟩
  · show Ok (F_x_move [.ob o, .str "down"] _) _
    with_reducible refine Ok.def_ ?_
    simp only [frame0, List.map_cons, List.map_nil, List.length_cons, List.length_nil, Nat.reduceAdd, Nat.reduceSub, Nat.zero_add, List.reduceReplicate, List.cons_append, List.nil_append]
    unfold B_x_move
    and_intros
    exact ⟨rfl, rfl⟩
  · show Ok (F_x_move [.ob o, .str "up"] _) _
    with_reducible refine Ok.def_ ?_
    simp only [frame0, List.map_cons, List.map_nil, List.length_cons, List.length_nil, Nat.reduceAdd, Nat.reduceSub, Nat.zero_add, List.reduceReplicate, List.cons_append, List.nil_append]
    unfold B_x_move
    and_intros
    exact ⟨rfl, rfl⟩
  · show Ok (F_x_move [.ob o, .str "last"] _) _
    with_reducible refine Ok.def_ ?_
    simp only [frame0, List.map_cons, List.map_nil, List.length_cons, List.length_nil, Nat.reduceAdd, Nat.reduceSub, Nat.zero_add, List.reduceReplicate, List.cons_append, List.nil_append]
    unfold B_x_move
    and_intros
    refine (x_come_in lt h2 h6).imp ?_
    rintro d S' ⟨rfl, rfl⟩
    and_intros
    exact ⟨rfl, rfl⟩
  · show Ok (F_x_move [.ob o, .str "put"] _) _
    with_reducible refine Ok.def_ ?_
    simp only [frame0, List.map_cons, List.map_nil, List.length_cons, List.length_nil, Nat.reduceAdd, Nat.reduceSub, Nat.zero_add, List.reduceReplicate, List.cons_append, List.nil_append]
    unfold B_x_move
    and_intros
    exact ⟨rfl, rfl⟩
  · show Ok (F_x_move [.ob o, .str "get"] _) _
    with_reducible refine Ok.def_ ?_
    simp only [frame0, List.map_cons, List.map_nil, List.length_cons, List.length_nil, Nat.reduceAdd, Nat.reduceSub, Nat.zero_add, List.reduceReplicate, List.cons_append, List.nil_append]
    unfold B_x_move
    and_intros
    refine (x_come_in lt h2 h6).imp ?_
    rintro d S' ⟨rfl, rfl⟩
    and_intros
    exact ⟨rfl, rfl⟩
end
end DL.Lb
namespace DL.Lb
open PySem PySem.Spec PyProof.Rows L2 DL
local macro_rules | `(tactic| and_intros) => `(tactic| repeat (first | ((with_reducible refine Ok.dgetM ?_ ?_); (assumption); (first | refine ⟨_, _, rfl, w_levels.2, ?_⟩ | refine ⟨_, _, rfl, w_rules.2, ?_⟩ | refine ⟨_, _, rfl, w_mode.2, ?_⟩ | refine ⟨_, _, rfl, w_last.2, ?_⟩ | refine ⟨_, _, rfl, w_memory.2, ?_⟩ | refine ⟨_, _, rfl, w_letters.2, ?_⟩)) | ((with_reducible refine Ok.dsetM ?_ ?_ ?_); (assumption); (exact wf_len); (first | refine ⟨_, _, rfl, q_levels, ?_⟩ | refine ⟨_, _, rfl, q_mode, ?_⟩ | refine ⟨_, _, rfl, q_last, ?_⟩ | refine ⟨_, _, rfl, q_memory, ?_⟩)) | with_reducible refine Ok.sll_d1 ?_ | with_reducible refine Ok.sll_d2 ?_ | with_reducible refine Ok.sll_t1 ?_ | with_reducible refine Ok.sll_dl ?_ | with_reducible refine Ok.sll_l1 ?_ | ((with_reducible refine Ok.al_1m ?_ ?_); (simp; omega)) | ((with_reducible refine Ok.al_2m ?_ ?_); (simp; omega)) | ((with_reducible refine Ok.al_m1 ?_ ?_); (simp; omega)) | ((with_reducible refine Ok.al_mm ?_ ?_); (simp; omega)) | ((with_reducible refine Ok.ixl0 ?_ ?_); (omega)) | ((with_reducible refine Ok.ixl1 ?_ ?_); (omega)) | ((with_reducible refine Ok.ixl9 ?_ ?_); (omega)) | with_reducible refine Ok.sli_tail ?_ | ((with_reducible refine Ok.var ?_); refine ⟨_, rfl, ?_⟩) | ((with_reducible refine Fr.go ?_); intro fr_ e_; simp only [List.set_cons_zero, List.set_cons_succ, setAll, wipeF] at e_; subst e_) | with_reducible refine Ok.bin ?_ | with_reducible refine Ok.calp ?_ | with_reducible refine Ok.cal ?_ | with_reducible refine Ok.cst ?_ | with_reducible refine Ok.acons ?_ | with_reducible refine Ok.anil ?_ | with_reducible refine Ok.un ?_ | with_reducible refine Ok.tb ?_ | with_reducible refine Ok.tsb ?_ | with_reducible refine OkS.seq ?_ | with_reducible refine OkS.asg ?_ | with_reducible refine Then.nx ?_ | with_reducible refine Then.rt ?_ | with_reducible refine OkS.ifS ?_ | with_reducible refine Ok.notF ?_ | with_reducible refine Ok.andF ?_ | with_reducible refine Ok.orF ?_ | with_reducible refine Ok.ite ?_ | with_reducible refine Br.t ?_ | with_reducible refine Br.f ?_ | with_reducible refine Br.not ?_ | ((with_reducible refine OkS.aug ?_); refine ⟨_, rfl, ?_⟩) | ((with_reducible refine Ok.ix_t ?_); refine ⟨_, rfl, ?_⟩) | ((with_reducible refine Ok.ix_l ?_); refine ⟨_, rfl, ?_⟩) | ((with_reducible refine Ok.tgT ?_ ?_); exact rfl) | with_reducible refine Ok.tup ?_ | with_reducible refine Ok.lst ?_ | with_reducible refine Ok.lstO ?_ | with_reducible refine Ok.tst ?_ | with_reducible refine Ok.tru_bl ?_ | with_reducible refine Ok.tru_non ?_ | with_reducible refine Ok.tru_tup ?_ | with_reducible refine Ok.tru_lst ?_ | with_reducible refine Ok.tru_int ?_ | with_reducible refine Ok.boolF ?_ | with_reducible refine Ok.andV ?_ | with_reducible refine Ok.orV ?_ | with_reducible refine Ok.notV ?_ | with_reducible refine Ok.yes ?_ | with_reducible refine Ok.prtN ?_ | with_reducible refine Ok.prtS ?_ | with_reducible refine Ok.sli ?_ | with_reducible refine Ok.chF ?_ | with_reducible refine Ok.exi ?_ | with_reducible refine Ok.exb ?_ | with_reducible refine Ok.add_ii ?_ | with_reducible refine Ok.sub_ii ?_ | with_reducible refine Ok.neg_i ?_ | with_reducible refine Ok.lt_ii ?_ | with_reducible refine Ok.le_ii ?_ | with_reducible refine Ok.gt_ii ?_ | with_reducible refine Ok.ge_ii ?_ | with_reducible refine Ok.eq_ii ?_ | with_reducible refine Ok.ne_ii ?_ | with_reducible refine Ok.eq_ss ?_ | with_reducible refine Ok.ne_ss ?_ | with_reducible refine Ok.in_ss ?_ | with_reducible refine Ok.nin_ss ?_ | with_reducible refine Ok.is_nn ?_ | with_reducible refine Ok.int_i ?_ | with_reducible refine Ok.int_b ?_ | with_reducible refine Ok.str_s ?_ | with_reducible refine Ok.max_ii ?_ | with_reducible refine Ok.min_ii ?_ | with_reducible refine Ok.len_t ?_ | with_reducible refine Ok.len_l ?_ | with_reducible refine Ok.tup_t ?_ | with_reducible refine Ok.tup_l ?_ | with_reducible refine Ok.lst_t ?_ | with_reducible refine Ok.lst_l ?_ | with_reducible refine Ok.sli_t ?_ | with_reducible refine Ok.sli_l ?_ | with_reducible refine OkS.ret ?_ | with_reducible refine OkS.retN ?_ | with_reducible refine OkS.expr ?_ | with_reducible refine OkS.nx ?_ | with_reducible refine OkS.bk ?_ | with_reducible refine OkS.ct ?_ | with_reducible refine Then.bk ?_ | with_reducible refine Then.ct ?_ | with_reducible refine Rt.rt ?_ | with_reducible refine Rt.nx ?_ | with_reducible refine Lp.nx ?_ | with_reducible refine Lp.ct ?_ | with_reducible refine Lp.bk ?_ | with_reducible refine Lp.rt ?_ | with_reducible refine OkS.asgG ?_ | with_reducible refine OkS.par ?_ | with_reducible refine Ok.iadd_ii ?_ | with_reducible refine Ok.isub_ii ?_ | with_reducible refine Ok.tgN ?_ | with_reducible refine Ok.tgA0 ?_ | with_reducible refine Ok.tgA ?_ | with_reducible refine Ok.tgSub ?_ | with_reducible refine Ok.rngF ?_ | with_reducible refine Ok.cmpD ?_ | with_reducible refine Ok.cmpO ?_ | with_reducible refine Ok.ret ?_ | with_reducible refine Ok.ok ?_ | with_reducible refine Ok.newO ?_ | with_reducible refine Ok.bnd ?_ | with_reducible refine OkS.fore ?_ | with_reducible refine Ok.cmpe ?_ | with_reducible refine Ok.itT ?_ | with_reducible refine ItQ.tup ?_ | with_reducible refine ItQ.lst ?_ | with_reducible refine ItQ.ctu ?_ | with_reducible refine SrcQ.con ?_ | with_reducible refine SrcQ.tup ?_ | with_reducible refine SrcQ.lst ?_ | with_reducible refine SrcQ.ctu ?_ | ((with_reducible refine Ok.mod_ii ?_ ?_); (first | decide | (simp; done) | (simp; omega))) | ((with_reducible refine Ok.add_tt ?_ ?_); (first | decide | (simp; done) | (simp; omega))) | ((with_reducible refine Ok.add_ll ?_ ?_); (first | decide | (simp; done) | (simp; omega))) | ((with_reducible refine Ok.add_ss ?_ ?_); (first | decide | (simp; done) | (simp; omega))) | ((with_reducible refine Ok.rng1 ?_ ?_); (first | decide | omega | (simp; omega))) | ((with_reducible refine Br.dt ?_ ?_); (first | assumption | exact rfl | omega | decide +kernel)) | ((with_reducible refine Br.df ?_ ?_); (first | assumption | omega | decide +kernel)) | ((with_reducible refine Br.tt ?_ ?_); (first | assumption | decide +kernel)) | ((with_reducible refine Br.ff ?_ ?_); (first | assumption | decide +kernel)) | with_reducible refine Ok.is_in ?_ | with_reducible refine Ok.is_tn ?_ | with_reducible refine Ok.is_bn ?_ | with_reducible refine Ok.is_sn ?_ | with_reducible refine Ok.nis_in ?_ | with_reducible refine Ok.nis_tn ?_ | with_reducible refine Ok.nis_bn ?_ | with_reducible refine Ok.nis_sn ?_ | with_reducible refine OkS.lcons ?_ | with_reducible refine OkS.lnil ?_ | with_reducible refine Ok.icons ?_ | with_reducible refine Ok.inil ?_ | with_reducible refine Ok.is_bb ?_ | with_reducible refine Ok.nis_bb ?_ | with_reducible refine Ok.nis_nn ?_ | with_reducible refine Ok.pcons ?_ | with_reducible refine Ok.pnil ?_ | with_reducible refine Ok.dctK ?_ | with_reducible refine Ok.tgDic ?_ | with_reducible refine Ok.fld ?_ | with_reducible refine Ok.tgAtt ?_ | with_reducible refine Ok.makO ?_ | ((with_reducible refine Ok.isi_tup (p := true) ?_ ?_); decide +kernel) | ((with_reducible refine Ok.isi_tup (p := false) ?_ ?_); decide +kernel) | ((with_reducible refine Ok.isi_int (p := true) ?_ ?_); decide +kernel) | ((with_reducible refine Ok.isi_int (p := false) ?_ ?_); decide +kernel) | ((with_reducible refine Ok.isi_str (p := true) ?_ ?_); decide +kernel) | ((with_reducible refine Ok.isi_str (p := false) ?_ ?_); decide +kernel) | ((with_reducible refine Ok.isi_lst (p := true) ?_ ?_); decide +kernel) | ((with_reducible refine Ok.isi_lst (p := false) ?_ ?_); decide +kernel) | ((with_reducible refine Ok.isi_bl (p := true) ?_ ?_); decide +kernel) | ((with_reducible refine Ok.isi_bl (p := false) ?_ ?_); decide +kernel) | ((with_reducible refine Ok.isi_non (p := true) ?_ ?_); decide +kernel) | ((with_reducible refine Ok.isi_non (p := false) ?_ ?_); decide +kernel) | ((with_reducible refine Ok.isi_ctu (p := true) ?_ ?_); decide +kernel) | ((with_reducible refine Ok.isi_ctu (p := false) ?_ ?_); decide +kernel) | ((with_reducible refine Ok.isi_emp (p := true) ?_ ?_); decide +kernel) | ((with_reducible refine Ok.isi_emp (p := false) ?_ ?_); decide +kernel) | (with_reducible refine Ok.disp ?_)))
section
variable {S0 S Sg : Store} {o : Nat} {size : Int} {deep : Str} {ks : List Str} {s : St} {l r : D} {i : Int}
theorem mul10 {i j : Int} {B : Nat} {S : Store} {Q : D → Store → Prop} (hi : i.natAbs < 10 ^ B) (hj : j.natAbs < 10 ^ B) (hB : B ≤ 9000) (h : Q (.int (i * j)) S) : Ok (mulD (.int i) (.int j) S) Q := by
  have e : ∀ n : Nat, n < 10 ^ B → n < 2 ^ (4 * B + 1) := fun n hn => by
    refine Nat.lt_of_lt_of_le hn ?_
    rw [Nat.pow_succ, Nat.pow_mul]
    exact Nat.le_trans (Nat.pow_le_pow_left (by decide) B) (Nat.le_mul_of_pos_right _ (by decide))
  with_reducible refine Ok.mul_ii (e _ hi) (e _ hj) ?_ ?_ ?_ ?_
  · omega
  · omega
  · omega
  exact h
theorem get_new {w x y : Option O} (lt : o < S0.length) : ((S0 ++ [w]).set o x)[(S0.set o y).length]? = some w := by
  rw [List.length_set, List.getElem?_set_ne (by omega), List.getElem?_append_right (Nat.le_refl _)]
  simp
def rulesD (size : Int) (deep : Str) (ks : List Str) : D := .tup [.int size, .str deep, .tup (ks.map .str)]
theorem x_mid (lt : o < S0.length) (h2 : 0 < s.lv.length) (k : Ky) {v1 : Option D} {fr : Frame} {Q : Fl → Frame → Store → Prop} (h : ∀ s', s' = keepS ks k s → s'.lv = s.lv → Q .nx (some (.ob o) :: v1 :: some (.lst (s.lv.map .int)) :: fr) (S0.set o (some (.dk (wf r s' l))))) :
    Br (decide (k.s ∈ ks)) (OkS (asgG (tgDic (varF 0) (cstF (.str "last"))) (binF ixD (varF 2) (cstF (.int 0))) (some (.ob o) :: v1 :: some (.lst (s.lv.map .int)) :: fr) (S0.set o (some (.dk (wf r s l))))) Q) (OkS (nxF (some (.ob o) :: v1 :: some (.lst (s.lv.map .int)) :: fr) (S0.set o (some (.dk (wf r s l))))) Q) := by
  refine Br.spd (fun c => ?_) (fun c => ?_)
  · and_intros
    exact h ⟨s.lv, s.lv.getD 0 0, s.mem, s.way⟩ (by unfold keepS; rw [if_pos (by simpa using c)]) rfl
  · and_intros
    exact h s (keepS_no c).symm rfl
theorem x_press0 (lt : o < S0.length) (hS : Sg.length ≤ o) (ex : Ext Sg S0) (sub : ∀ k ∈ ks, k ∈ KEEPS) (h2 : 2 ≤ s.lv.length) (h6 : s.lv.length ≤ 6) {B : Nat} (hB2 : 2 ≤ B) (hB : B ≤ 9000) (hx : ∀ x ∈ s.lv, Int.natAbs x < 10 ^ B) {ls : List Int} (hl : Lets l ls) (k : Ky) :
    Ok (F_x_press [.ob o, .str k.s] (S0.set o (some (.dk (wf (rulesD size deep ks) s l))))) fun d S' => d = .non ∧ S'[o]? = some (some (.dk (wf (rulesD size deep ks) (pressN deep ks ls k s) l))) ∧ Ext Sg S' := by
  unfold rulesD
  have ok := k.ok
  have okk : ∀ a ∈ ks, PyData.strOk a = true := fun a h => KEEPS_ok a (sub a h)
  have no : ∀ k : Ky, k.s ∉ KEEPS → k.s ∉ ks := fun k h1 h2 => h1 (sub _ h2)
  cases k with
  | dig n =>
    have f := dig_ok n
    have e : pressN deep ks ls (.dig n) s = pressS deep ls (.dig n) s := congrArg (pressS deep ls (.dig n)) (keepS_no (no _ (key_facts.1 n)))
    rw [e]
    with_reducible refine Ok.def_ ?_
    simp only [frame0, List.map_cons, List.map_nil, List.length_cons, List.length_nil, Nat.reduceAdd, Nat.reduceSub, Nat.zero_add, List.reduceReplicate, List.cons_append, List.nil_append]
    unfold B_x_press
    and_intros
    refine Ok.in_st ok okk ?_
    and_intros
    refine Br.df (no _ (key_facts.1 n)) ?_
    and_intros
    refine Br.tt f.1 ?_
    and_intros
    refine Br.spd (fun c => ?_) (fun c => ?_)
    · and_intros
      refine mul10 (B := B) (Nat.lt_of_lt_of_le (by decide : _ < 10 ^ 2) (Nat.pow_le_pow_right (by decide) hB2)) (getD_bnd hx) hB ?_
      and_intros
      refine Ok.int_s f.2.1 f.2.2.1 ?_
      and_intros
      refine ⟨rfl, ?_, ex.set hS⟩
      rw [List.getElem?_set_self lt]
      simp only [pressS, if_pos c]
    · and_intros
      refine Ok.int_s f.2.1 f.2.2.1 ?_
      and_intros
      refine (x_come_in lt h2 h6).imp ?_
      rintro d S' ⟨rfl, rfl⟩
      and_intros
      refine ⟨rfl, ?_, ex.set hS⟩
      rw [List.getElem?_set_self lt]
      simp only [pressS, if_neg c, St.come]
  | lett n =>
    have f := lett_ok n
    have f2 := key_facts.2.1 n
    have e : pressN deep ks ls (.lett n) s = pressS deep ls (.lett n) s := congrArg (pressS deep ls (.lett n)) (keepS_no (no _ f2.1))
    rw [e]
    with_reducible refine Ok.def_ ?_
    simp only [frame0, List.map_cons, List.map_nil, List.length_cons, List.length_nil, Nat.reduceAdd, Nat.reduceSub, Nat.zero_add, List.reduceReplicate, List.cons_append, List.nil_append]
    unfold B_x_press
    and_intros
    refine Ok.in_st ok okk ?_
    and_intros
    refine Br.df (no _ f2.1) ?_
    and_intros
    refine Br.ff f.1 ?_
    and_intros
    refine Br.tt f.2.1 ?_
    and_intros
    refine Ok.met ?_
    and_intros
    refine ⟨beq_self_eq_true _, ?_⟩
    and_intros
    refine Ok.six f.2.2 ?_
    and_intros
    refine Ok.of (hl n _) ?_
    and_intros
    refine (x_come_in lt h2 h6).imp ?_
    rintro d S' ⟨rfl, rfl⟩
    and_intros
    exact ⟨rfl, List.getElem?_set_self lt, ex.set hS⟩
  | enter =>
    show Ok (F_x_press [.ob o, .str "enter"] _) _
    with_reducible refine Ok.def_ ?_
    simp only [frame0, List.map_cons, List.map_nil, List.length_cons, List.length_nil, Nat.reduceAdd, Nat.reduceSub, Nat.zero_add, List.reduceReplicate, List.cons_append, List.nil_append]
    unfold B_x_press
    and_intros
    refine Ok.in_st (by decide +kernel) okk ?_
    and_intros
    refine x_mid lt (by omega) .enter (fun s' es el => ?_)
    unfold pressN
    rw [← es, ← el]
    rw [← el] at h2 h6 hx
    clear es el
    and_intros
    refine Ok.in_ld (ks := ["enter", "clear"]) rfl (by decide +kernel) (by decide +kernel) ?_
    and_intros
    exact ⟨rfl, List.getElem?_set_self (by assumption), ex.set hS⟩
  | clear =>
    show Ok (F_x_press [.ob o, .str "clear"] _) _
    with_reducible refine Ok.def_ ?_
    simp only [frame0, List.map_cons, List.map_nil, List.length_cons, List.length_nil, Nat.reduceAdd, Nat.reduceSub, Nat.zero_add, List.reduceReplicate, List.cons_append, List.nil_append]
    unfold B_x_press
    and_intros
    refine Ok.in_st (by decide +kernel) okk ?_
    and_intros
    refine x_mid lt (by omega) .clear (fun s' es el => ?_)
    unfold pressN
    rw [← es, ← el]
    rw [← el] at h2 h6 hx
    clear es el
    and_intros
    refine Ok.in_ld (ks := ["enter", "clear"]) rfl (by decide +kernel) (by decide +kernel) ?_
    and_intros
    exact ⟨rfl, List.getElem?_set_self (by assumption), ex.set hS⟩
  | plus =>
    show Ok (F_x_press [.ob o, .str "+"] _) _
    with_reducible refine Ok.def_ ?_
    simp only [frame0, List.map_cons, List.map_nil, List.length_cons, List.length_nil, Nat.reduceAdd, Nat.reduceSub, Nat.zero_add, List.reduceReplicate, List.cons_append, List.nil_append]
    unfold B_x_press
    and_intros
    refine Ok.in_st (by decide +kernel) okk ?_
    and_intros
    refine x_mid lt (by omega) .plus (fun s' es el => ?_)
    unfold pressN
    rw [← es, ← el]
    rw [← el] at h2 h6 hx
    clear es el
    and_intros
    refine Ok.in_ld (ks := ["enter", "clear"]) rfl (by decide +kernel) (by decide +kernel) ?_
    and_intros
    refine Ok.in_ld (ks := ["+", "-", "*"]) rfl (by decide +kernel) (by decide +kernel) ?_
    and_intros
    refine mul10 (getD_bnd hx) (getD_bnd hx) hB ?_
    and_intros
    refine ⟨_, rfl, ?_⟩
    and_intros
    rw [← List.set_append_left _ _ lt]
    refine Ok.dget (k := .inr "+") (get_new lt) rfl rfl ?_
    have lt2 : o < (S0 ++ [some (O.dk (mergeD [] [(.inr "+", .int (s'.lv.getD 1 0 + s'.lv.getD 0 0)), (.inr "-", .int (s'.lv.getD 1 0 - s'.lv.getD 0 0)), (.inr "*", .int (s'.lv.getD 1 0 * s'.lv.getD 0 0))]))]).length := by simp; omega
    have ex2 := ex.trans (Ext.app (S := S0) (o := some (O.dk (mergeD [] [(.inr "+", .int (s'.lv.getD 1 0 + s'.lv.getD 0 0)), (.inr "-", .int (s'.lv.getD 1 0 - s'.lv.getD 0 0)), (.inr "*", .int (s'.lv.getD 1 0 * s'.lv.getD 0 0))]))))
    and_intros
    refine Br.spd (fun c => ?_) (fun c => ?_)
    · and_intros
      refine ⟨rfl, ?_, ex2.set hS⟩
      rw [List.getElem?_set_self lt2]
      simp only [pressS, if_pos c, List.cons_append]
    · and_intros
      refine ⟨rfl, ?_, ex2.set hS⟩
      rw [List.getElem?_set_self lt2]
      simp only [pressS, if_neg c, List.cons_append]
  | minus =>
    show Ok (F_x_press [.ob o, .str "-"] _) _
    with_reducible refine Ok.def_ ?_
    simp only [frame0, List.map_cons, List.map_nil, List.length_cons, List.length_nil, Nat.reduceAdd, Nat.reduceSub, Nat.zero_add, List.reduceReplicate, List.cons_append, List.nil_append]
    unfold B_x_press
    and_intros
    refine Ok.in_st (by decide +kernel) okk ?_
    and_intros
    refine x_mid lt (by omega) .minus (fun s' es el => ?_)
    unfold pressN
    rw [← es, ← el]
    rw [← el] at h2 h6 hx
    clear es el
    and_intros
    refine Ok.in_ld (ks := ["enter", "clear"]) rfl (by decide +kernel) (by decide +kernel) ?_
    and_intros
    refine Ok.in_ld (ks := ["+", "-", "*"]) rfl (by decide +kernel) (by decide +kernel) ?_
    and_intros
    refine mul10 (getD_bnd hx) (getD_bnd hx) hB ?_
    and_intros
    refine ⟨_, rfl, ?_⟩
    and_intros
    rw [← List.set_append_left _ _ lt]
    refine Ok.dget (k := .inr "-") (get_new lt) rfl rfl ?_
    have lt2 : o < (S0 ++ [some (O.dk (mergeD [] [(.inr "+", .int (s'.lv.getD 1 0 + s'.lv.getD 0 0)), (.inr "-", .int (s'.lv.getD 1 0 - s'.lv.getD 0 0)), (.inr "*", .int (s'.lv.getD 1 0 * s'.lv.getD 0 0))]))]).length := by simp; omega
    have ex2 := ex.trans (Ext.app (S := S0) (o := some (O.dk (mergeD [] [(.inr "+", .int (s'.lv.getD 1 0 + s'.lv.getD 0 0)), (.inr "-", .int (s'.lv.getD 1 0 - s'.lv.getD 0 0)), (.inr "*", .int (s'.lv.getD 1 0 * s'.lv.getD 0 0))]))))
    and_intros
    refine Br.spd (fun c => ?_) (fun c => ?_)
    · and_intros
      refine ⟨rfl, ?_, ex2.set hS⟩
      rw [List.getElem?_set_self lt2]
      simp only [pressS, if_pos c, List.cons_append]
    · and_intros
      refine ⟨rfl, ?_, ex2.set hS⟩
      rw [List.getElem?_set_self lt2]
      simp only [pressS, if_neg c, List.cons_append]
  | times =>
    show Ok (F_x_press [.ob o, .str "*"] _) _
    with_reducible refine Ok.def_ ?_
    simp only [frame0, List.map_cons, List.map_nil, List.length_cons, List.length_nil, Nat.reduceAdd, Nat.reduceSub, Nat.zero_add, List.reduceReplicate, List.cons_append, List.nil_append]
    unfold B_x_press
    and_intros
    refine Ok.in_st (by decide +kernel) okk ?_
    and_intros
    refine x_mid lt (by omega) .times (fun s' es el => ?_)
    unfold pressN
    rw [← es, ← el]
    rw [← el] at h2 h6 hx
    clear es el
    and_intros
    refine Ok.in_ld (ks := ["enter", "clear"]) rfl (by decide +kernel) (by decide +kernel) ?_
    and_intros
    refine Ok.in_ld (ks := ["+", "-", "*"]) rfl (by decide +kernel) (by decide +kernel) ?_
    and_intros
    refine mul10 (getD_bnd hx) (getD_bnd hx) hB ?_
    and_intros
    refine ⟨_, rfl, ?_⟩
    and_intros
    rw [← List.set_append_left _ _ lt]
    refine Ok.dget (k := .inr "*") (get_new lt) rfl rfl ?_
    have lt2 : o < (S0 ++ [some (O.dk (mergeD [] [(.inr "+", .int (s'.lv.getD 1 0 + s'.lv.getD 0 0)), (.inr "-", .int (s'.lv.getD 1 0 - s'.lv.getD 0 0)), (.inr "*", .int (s'.lv.getD 1 0 * s'.lv.getD 0 0))]))]).length := by simp; omega
    have ex2 := ex.trans (Ext.app (S := S0) (o := some (O.dk (mergeD [] [(.inr "+", .int (s'.lv.getD 1 0 + s'.lv.getD 0 0)), (.inr "-", .int (s'.lv.getD 1 0 - s'.lv.getD 0 0)), (.inr "*", .int (s'.lv.getD 1 0 * s'.lv.getD 0 0))]))))
    and_intros
    refine Br.spd (fun c => ?_) (fun c => ?_)
    · and_intros
      refine ⟨rfl, ?_, ex2.set hS⟩
      rw [List.getElem?_set_self lt2]
      simp only [pressS, if_pos c, List.cons_append]
    · and_intros
      refine ⟨rfl, ?_, ex2.set hS⟩
      rw [List.getElem?_set_self lt2]
      simp only [pressS, if_neg c, List.cons_append]
  | neg =>
    show Ok (F_x_press [.ob o, .str "neg"] _) _
    with_reducible refine Ok.def_ ?_
    simp only [frame0, List.map_cons, List.map_nil, List.length_cons, List.length_nil, Nat.reduceAdd, Nat.reduceSub, Nat.zero_add, List.reduceReplicate, List.cons_append, List.nil_append]
    unfold B_x_press
    and_intros
    refine Ok.in_st (by decide +kernel) okk ?_
    and_intros
    refine x_mid lt (by omega) .neg (fun s' es el => ?_)
    unfold pressN
    rw [← es, ← el]
    rw [← el] at h2 h6 hx
    clear es el
    and_intros
    refine Ok.in_ld (ks := ["enter", "clear"]) rfl (by decide +kernel) (by decide +kernel) ?_
    and_intros
    refine Ok.in_ld (ks := ["+", "-", "*"]) rfl (by decide +kernel) (by decide +kernel) ?_
    and_intros
    exact ⟨rfl, List.getElem?_set_self (by assumption), ex.set hS⟩
  | swap =>
    show Ok (F_x_press [.ob o, .str "swap"] _) _
    with_reducible refine Ok.def_ ?_
    simp only [frame0, List.map_cons, List.map_nil, List.length_cons, List.length_nil, Nat.reduceAdd, Nat.reduceSub, Nat.zero_add, List.reduceReplicate, List.cons_append, List.nil_append]
    unfold B_x_press
    and_intros
    refine Ok.in_st (by decide +kernel) okk ?_
    and_intros
    refine x_mid lt (by omega) .swap (fun s' es el => ?_)
    unfold pressN
    rw [← es, ← el]
    rw [← el] at h2 h6 hx
    clear es el
    and_intros
    refine Ok.in_ld (ks := ["enter", "clear"]) rfl (by decide +kernel) (by decide +kernel) ?_
    and_intros
    refine Ok.in_ld (ks := ["+", "-", "*"]) rfl (by decide +kernel) (by decide +kernel) ?_
    and_intros
    refine (x_move lt h2 h6 (deep := deep) (x := ls) .swap (by simp)).imp ?_
    rintro d S' ⟨rfl, rfl⟩
    and_intros
    exact ⟨rfl, List.getElem?_set_self (by assumption), ex.set hS⟩
  | down =>
    show Ok (F_x_press [.ob o, .str "down"] _) _
    with_reducible refine Ok.def_ ?_
    simp only [frame0, List.map_cons, List.map_nil, List.length_cons, List.length_nil, Nat.reduceAdd, Nat.reduceSub, Nat.zero_add, List.reduceReplicate, List.cons_append, List.nil_append]
    unfold B_x_press
    and_intros
    refine Ok.in_st (by decide +kernel) okk ?_
    and_intros
    refine x_mid lt (by omega) .down (fun s' es el => ?_)
    unfold pressN
    rw [← es, ← el]
    rw [← el] at h2 h6 hx
    clear es el
    and_intros
    refine Ok.in_ld (ks := ["enter", "clear"]) rfl (by decide +kernel) (by decide +kernel) ?_
    and_intros
    refine Ok.in_ld (ks := ["+", "-", "*"]) rfl (by decide +kernel) (by decide +kernel) ?_
    and_intros
    refine (x_move lt h2 h6 (deep := deep) (x := ls) .down (by simp)).imp ?_
    rintro d S' ⟨rfl, rfl⟩
    and_intros
    exact ⟨rfl, List.getElem?_set_self (by assumption), ex.set hS⟩
  | up =>
    show Ok (F_x_press [.ob o, .str "up"] _) _
    with_reducible refine Ok.def_ ?_
    simp only [frame0, List.map_cons, List.map_nil, List.length_cons, List.length_nil, Nat.reduceAdd, Nat.reduceSub, Nat.zero_add, List.reduceReplicate, List.cons_append, List.nil_append]
    unfold B_x_press
    and_intros
    refine Ok.in_st (by decide +kernel) okk ?_
    and_intros
    refine x_mid lt (by omega) .up (fun s' es el => ?_)
    unfold pressN
    rw [← es, ← el]
    rw [← el] at h2 h6 hx
    clear es el
    and_intros
    refine Ok.in_ld (ks := ["enter", "clear"]) rfl (by decide +kernel) (by decide +kernel) ?_
    and_intros
    refine Ok.in_ld (ks := ["+", "-", "*"]) rfl (by decide +kernel) (by decide +kernel) ?_
    and_intros
    refine (x_move lt h2 h6 (deep := deep) (x := ls) .up (by simp)).imp ?_
    rintro d S' ⟨rfl, rfl⟩
    and_intros
    exact ⟨rfl, List.getElem?_set_self (by assumption), ex.set hS⟩
  | last =>
    show Ok (F_x_press [.ob o, .str "last"] _) _
    with_reducible refine Ok.def_ ?_
    simp only [frame0, List.map_cons, List.map_nil, List.length_cons, List.length_nil, Nat.reduceAdd, Nat.reduceSub, Nat.zero_add, List.reduceReplicate, List.cons_append, List.nil_append]
    unfold B_x_press
    and_intros
    refine Ok.in_st (by decide +kernel) okk ?_
    and_intros
    refine x_mid lt (by omega) .last (fun s' es el => ?_)
    unfold pressN
    rw [← es, ← el]
    rw [← el] at h2 h6 hx
    clear es el
    and_intros
    refine Ok.in_ld (ks := ["enter", "clear"]) rfl (by decide +kernel) (by decide +kernel) ?_
    and_intros
    refine Ok.in_ld (ks := ["+", "-", "*"]) rfl (by decide +kernel) (by decide +kernel) ?_
    and_intros
    refine (x_move lt h2 h6 (deep := deep) (x := ls) .last (by simp)).imp ?_
    rintro d S' ⟨rfl, rfl⟩
    and_intros
    exact ⟨rfl, List.getElem?_set_self (by assumption), ex.set hS⟩
  | put =>
    show Ok (F_x_press [.ob o, .str "put"] _) _
    with_reducible refine Ok.def_ ?_
    simp only [frame0, List.map_cons, List.map_nil, List.length_cons, List.length_nil, Nat.reduceAdd, Nat.reduceSub, Nat.zero_add, List.reduceReplicate, List.cons_append, List.nil_append]
    unfold B_x_press
    and_intros
    refine Ok.in_st (by decide +kernel) okk ?_
    and_intros
    refine x_mid lt (by omega) .put (fun s' es el => ?_)
    unfold pressN
    rw [← es, ← el]
    rw [← el] at h2 h6 hx
    clear es el
    and_intros
    refine Ok.in_ld (ks := ["enter", "clear"]) rfl (by decide +kernel) (by decide +kernel) ?_
    and_intros
    refine Ok.in_ld (ks := ["+", "-", "*"]) rfl (by decide +kernel) (by decide +kernel) ?_
    and_intros
    refine (x_move lt h2 h6 (deep := deep) (x := ls) .put (by simp)).imp ?_
    rintro d S' ⟨rfl, rfl⟩
    and_intros
    exact ⟨rfl, List.getElem?_set_self (by assumption), ex.set hS⟩
  | get =>
    show Ok (F_x_press [.ob o, .str "get"] _) _
    with_reducible refine Ok.def_ ?_
    simp only [frame0, List.map_cons, List.map_nil, List.length_cons, List.length_nil, Nat.reduceAdd, Nat.reduceSub, Nat.zero_add, List.reduceReplicate, List.cons_append, List.nil_append]
    unfold B_x_press
    and_intros
    refine Ok.in_st (by decide +kernel) okk ?_
    and_intros
    refine x_mid lt (by omega) .get (fun s' es el => ?_)
    unfold pressN
    rw [← es, ← el]
    rw [← el] at h2 h6 hx
    clear es el
    and_intros
    refine Ok.in_ld (ks := ["enter", "clear"]) rfl (by decide +kernel) (by decide +kernel) ?_
    and_intros
    refine Ok.in_ld (ks := ["+", "-", "*"]) rfl (by decide +kernel) (by decide +kernel) ?_
    and_intros
    refine (x_move lt h2 h6 (deep := deep) (x := ls) .get (by simp)).imp ?_
    rintro d S' ⟨rfl, rfl⟩
    and_intros
    exact ⟨rfl, List.getElem?_set_self (by assumption), ex.set hS⟩
end
end DL.Lb
namespace DL.Lb
open PySem PySem.Spec PyProof.Rows L2 DL
local macro_rules | `(tactic| and_intros) => `(tactic| repeat (first | ((with_reducible refine Ok.dgetM ?_ ?_); (assumption); (first | refine ⟨_, _, rfl, w_levels.2, ?_⟩ | refine ⟨_, _, rfl, w_rules.2, ?_⟩ | refine ⟨_, _, rfl, w_mode.2, ?_⟩ | refine ⟨_, _, rfl, w_last.2, ?_⟩ | refine ⟨_, _, rfl, w_memory.2, ?_⟩ | refine ⟨_, _, rfl, w_letters.2, ?_⟩)) | ((with_reducible refine Ok.dsetM ?_ ?_ ?_); (assumption); (exact wf_len); (first | refine ⟨_, _, rfl, q_levels, ?_⟩ | refine ⟨_, _, rfl, q_mode, ?_⟩ | refine ⟨_, _, rfl, q_last, ?_⟩ | refine ⟨_, _, rfl, q_memory, ?_⟩)) | with_reducible refine Ok.sll_d1 ?_ | with_reducible refine Ok.sll_d2 ?_ | with_reducible refine Ok.sll_t1 ?_ | with_reducible refine Ok.sll_dl ?_ | with_reducible refine Ok.sll_l1 ?_ | ((with_reducible refine Ok.al_1m ?_ ?_); (simp; omega)) | ((with_reducible refine Ok.al_2m ?_ ?_); (simp; omega)) | ((with_reducible refine Ok.al_m1 ?_ ?_); (simp; omega)) | ((with_reducible refine Ok.al_mm ?_ ?_); (simp; omega)) | ((with_reducible refine Ok.ixl0 ?_ ?_); (omega)) | ((with_reducible refine Ok.ixl1 ?_ ?_); (omega)) | ((with_reducible refine Ok.ixl9 ?_ ?_); (omega)) | with_reducible refine Ok.sli_tail ?_ | ((with_reducible refine Ok.var ?_); refine ⟨_, rfl, ?_⟩) | ((with_reducible refine Fr.go ?_); intro fr_ e_; simp only [List.set_cons_zero, List.set_cons_succ, setAll, wipeF] at e_; subst e_) | with_reducible refine Ok.bin ?_ | with_reducible refine Ok.calp ?_ | with_reducible refine Ok.cal ?_ | with_reducible refine Ok.cst ?_ | with_reducible refine Ok.acons ?_ | with_reducible refine Ok.anil ?_ | with_reducible refine Ok.un ?_ | with_reducible refine Ok.tb ?_ | with_reducible refine Ok.tsb ?_ | with_reducible refine OkS.seq ?_ | with_reducible refine OkS.asg ?_ | with_reducible refine Then.nx ?_ | with_reducible refine Then.rt ?_ | with_reducible refine OkS.ifS ?_ | with_reducible refine Ok.notF ?_ | with_reducible refine Ok.andF ?_ | with_reducible refine Ok.orF ?_ | with_reducible refine Ok.ite ?_ | with_reducible refine Br.t ?_ | with_reducible refine Br.f ?_ | with_reducible refine Br.not ?_ | ((with_reducible refine OkS.aug ?_); refine ⟨_, rfl, ?_⟩) | ((with_reducible refine Ok.ix_t ?_); refine ⟨_, rfl, ?_⟩) | ((with_reducible refine Ok.ix_l ?_); refine ⟨_, rfl, ?_⟩) | ((with_reducible refine Ok.tgT ?_ ?_); exact rfl) | with_reducible refine Ok.tup ?_ | with_reducible refine Ok.lst ?_ | with_reducible refine Ok.lstO ?_ | with_reducible refine Ok.tst ?_ | with_reducible refine Ok.tru_bl ?_ | with_reducible refine Ok.tru_non ?_ | with_reducible refine Ok.tru_tup ?_ | with_reducible refine Ok.tru_lst ?_ | with_reducible refine Ok.tru_int ?_ | with_reducible refine Ok.boolF ?_ | with_reducible refine Ok.andV ?_ | with_reducible refine Ok.orV ?_ | with_reducible refine Ok.notV ?_ | with_reducible refine Ok.yes ?_ | with_reducible refine Ok.prtN ?_ | with_reducible refine Ok.prtS ?_ | with_reducible refine Ok.sli ?_ | with_reducible refine Ok.chF ?_ | with_reducible refine Ok.exi ?_ | with_reducible refine Ok.exb ?_ | with_reducible refine Ok.add_ii ?_ | with_reducible refine Ok.sub_ii ?_ | with_reducible refine Ok.neg_i ?_ | with_reducible refine Ok.lt_ii ?_ | with_reducible refine Ok.le_ii ?_ | with_reducible refine Ok.gt_ii ?_ | with_reducible refine Ok.ge_ii ?_ | with_reducible refine Ok.eq_ii ?_ | with_reducible refine Ok.ne_ii ?_ | with_reducible refine Ok.eq_ss ?_ | with_reducible refine Ok.ne_ss ?_ | with_reducible refine Ok.in_ss ?_ | with_reducible refine Ok.nin_ss ?_ | with_reducible refine Ok.is_nn ?_ | with_reducible refine Ok.int_i ?_ | with_reducible refine Ok.int_b ?_ | with_reducible refine Ok.str_s ?_ | with_reducible refine Ok.max_ii ?_ | with_reducible refine Ok.min_ii ?_ | with_reducible refine Ok.len_t ?_ | with_reducible refine Ok.len_l ?_ | with_reducible refine Ok.tup_t ?_ | with_reducible refine Ok.tup_l ?_ | with_reducible refine Ok.lst_t ?_ | with_reducible refine Ok.lst_l ?_ | with_reducible refine Ok.sli_t ?_ | with_reducible refine Ok.sli_l ?_ | with_reducible refine OkS.ret ?_ | with_reducible refine OkS.retN ?_ | with_reducible refine OkS.expr ?_ | with_reducible refine OkS.nx ?_ | with_reducible refine OkS.bk ?_ | with_reducible refine OkS.ct ?_ | with_reducible refine Then.bk ?_ | with_reducible refine Then.ct ?_ | with_reducible refine Rt.rt ?_ | with_reducible refine Rt.nx ?_ | with_reducible refine Lp.nx ?_ | with_reducible refine Lp.ct ?_ | with_reducible refine Lp.bk ?_ | with_reducible refine Lp.rt ?_ | with_reducible refine OkS.asgG ?_ | with_reducible refine OkS.par ?_ | with_reducible refine Ok.iadd_ii ?_ | with_reducible refine Ok.isub_ii ?_ | with_reducible refine Ok.tgN ?_ | with_reducible refine Ok.tgA0 ?_ | with_reducible refine Ok.tgA ?_ | with_reducible refine Ok.tgSub ?_ | with_reducible refine Ok.rngF ?_ | with_reducible refine Ok.cmpD ?_ | with_reducible refine Ok.cmpO ?_ | with_reducible refine Ok.ret ?_ | with_reducible refine Ok.ok ?_ | with_reducible refine Ok.newO ?_ | with_reducible refine Ok.bnd ?_ | with_reducible refine OkS.fore ?_ | with_reducible refine Ok.cmpe ?_ | with_reducible refine Ok.itT ?_ | with_reducible refine ItQ.tup ?_ | with_reducible refine ItQ.lst ?_ | with_reducible refine ItQ.ctu ?_ | with_reducible refine SrcQ.con ?_ | with_reducible refine SrcQ.tup ?_ | with_reducible refine SrcQ.lst ?_ | with_reducible refine SrcQ.ctu ?_ | ((with_reducible refine Ok.mod_ii ?_ ?_); (first | decide | (simp; done) | (simp; omega))) | ((with_reducible refine Ok.add_tt ?_ ?_); (first | decide | (simp; done) | (simp; omega))) | ((with_reducible refine Ok.add_ll ?_ ?_); (first | decide | (simp; done) | (simp; omega))) | ((with_reducible refine Ok.add_ss ?_ ?_); (first | decide | (simp; done) | (simp; omega))) | ((with_reducible refine Ok.rng1 ?_ ?_); (first | decide | omega | (simp; omega))) | ((with_reducible refine Br.dt ?_ ?_); (first | assumption | exact rfl | omega | decide +kernel)) | ((with_reducible refine Br.df ?_ ?_); (first | assumption | omega | decide +kernel)) | ((with_reducible refine Br.tt ?_ ?_); (first | assumption | decide +kernel)) | ((with_reducible refine Br.ff ?_ ?_); (first | assumption | decide +kernel)) | with_reducible refine Ok.is_in ?_ | with_reducible refine Ok.is_tn ?_ | with_reducible refine Ok.is_bn ?_ | with_reducible refine Ok.is_sn ?_ | with_reducible refine Ok.nis_in ?_ | with_reducible refine Ok.nis_tn ?_ | with_reducible refine Ok.nis_bn ?_ | with_reducible refine Ok.nis_sn ?_ | with_reducible refine OkS.lcons ?_ | with_reducible refine OkS.lnil ?_ | with_reducible refine Ok.icons ?_ | with_reducible refine Ok.inil ?_ | with_reducible refine Ok.is_bb ?_ | with_reducible refine Ok.nis_bb ?_ | with_reducible refine Ok.nis_nn ?_ | with_reducible refine Ok.pcons ?_ | with_reducible refine Ok.pnil ?_ | with_reducible refine Ok.dctK ?_ | with_reducible refine Ok.tgDic ?_ | with_reducible refine Ok.fld ?_ | with_reducible refine Ok.tgAtt ?_ | with_reducible refine Ok.makO ?_ | ((with_reducible refine Ok.isi_tup (p := true) ?_ ?_); decide +kernel) | ((with_reducible refine Ok.isi_tup (p := false) ?_ ?_); decide +kernel) | ((with_reducible refine Ok.isi_int (p := true) ?_ ?_); decide +kernel) | ((with_reducible refine Ok.isi_int (p := false) ?_ ?_); decide +kernel) | ((with_reducible refine Ok.isi_str (p := true) ?_ ?_); decide +kernel) | ((with_reducible refine Ok.isi_str (p := false) ?_ ?_); decide +kernel) | ((with_reducible refine Ok.isi_lst (p := true) ?_ ?_); decide +kernel) | ((with_reducible refine Ok.isi_lst (p := false) ?_ ?_); decide +kernel) | ((with_reducible refine Ok.isi_bl (p := true) ?_ ?_); decide +kernel) | ((with_reducible refine Ok.isi_bl (p := false) ?_ ?_); decide +kernel) | ((with_reducible refine Ok.isi_non (p := true) ?_ ?_); decide +kernel) | ((with_reducible refine Ok.isi_non (p := false) ?_ ?_); decide +kernel) | ((with_reducible refine Ok.isi_ctu (p := true) ?_ ?_); decide +kernel) | ((with_reducible refine Ok.isi_ctu (p := false) ?_ ?_); decide +kernel) | ((with_reducible refine Ok.isi_emp (p := true) ?_ ?_); decide +kernel) | ((with_reducible refine Ok.isi_emp (p := false) ?_ ?_); decide +kernel) | (with_reducible refine Ok.disp ?_)))
section
variable {S0 S Sg : Store} {o : Nat} {size : Int} {deep : Str} {ks : List Str} {s : St} {l r : D} {i : Int}
theorem x_press (e : S[o]? = some (some (.dk (wf (rulesD size deep ks) s l)))) (hS : Sg.length ≤ o) (ex : Ext Sg S) (sub : ∀ k ∈ ks, k ∈ KEEPS) (h2 : 2 ≤ s.lv.length) (h6 : s.lv.length ≤ 6) {B : Nat} (hB2 : 2 ≤ B) (hB : B ≤ 9000) (hx : ∀ x ∈ s.lv, Int.natAbs x < 10 ^ B) {ls : List Int} (hl : Lets l ls) (k : Ky) :
    Ok (F_x_press [.ob o, .str k.s] S) fun d S' => d = .non ∧ S'[o]? = some (some (.dk (wf (rulesD size deep ks) (pressN deep ks ls k s) l))) ∧ Ext Sg S' := by
  have h := x_press0 (S0 := S) (deep := deep) (size := size) (List.getElem?_eq_some_iff.mp e).1 hS ex sub h2 h6 hB2 hB hx hl k
  rw [← set_self e] at h
  exact h
theorem x_world : Ok (F_x_world [r, stD s, l] S) fun d S' => ∃ o, d = .ob o ∧ S.length ≤ o ∧ S'[o]? = some (some (.dk (wf r s l))) ∧ Ext S S' := by
  unfold stD
  with_reducible refine Ok.def_ ?_
  simp only [frame0, List.map_cons, List.map_nil, List.length_cons, List.length_nil, Nat.reduceAdd, Nat.reduceSub, Nat.zero_add, List.reduceReplicate, List.cons_append, List.nil_append]
  unfold B_x_world
  and_intros
  refine ⟨_, rfl, ?_⟩
  and_intros
  refine Ok.dset (k := .inr "letters") (t := mergeD [] [(.inr "rules", r), (.inr "levels", .lst (s.lv.map .int)), (.inr "last", .int s.kp), (.inr "memory", .int s.mem), (.inr "mode", .str s.way)]) (by rw [List.getElem?_append_right (Nat.le_refl _)]; simp) rfl (by show 5 < 100000; decide) ?_
  and_intros
  refine ⟨_, rfl, Nat.le_refl _, ?_, Ext.set Ext.app (Nat.le_refl _)⟩
  rw [List.getElem?_set_self (by simp)]
  rfl
theorem x_run_loop {ls : List Int} (hl : Lets l ls) (sub : ∀ k ∈ ks, k ∈ KEEPS) {v0 v1 v2 v3 : Option D} {Q : Fl → Frame → Store → Prop} : ∀ (r : List Ky) {s : St} {S : Store} {B : Nat} {v5 : Option D}, S[o]? = some (some (.dk (wf (rulesD size deep ks) s l))) → 2 ≤ s.lv.length → s.lv.length ≤ 6 → 2 ≤ B → rB r B ≤ 9000 → bnds B s → (∀ x ∈ ls, Int.natAbs x < 10 ^ B) → S0.length ≤ o → Ext S0 S →
    (∀ S' v5, S'[o]? = some (some (.dk (wf (rulesD size deep ks) (runN deep ks ls r s) l))) → Ext S0 S' → Q .nx [v0, v1, v2, v3, some (.ob o), v5] S') → OkS (loopL (tgName 5) L_x_run_1 ((r.map Ky.s).map .str) [v0, v1, v2, v3, some (.ob o), v5] S) Q
  | [], s, S, B, v5, e, h2, h6, hB2, hB, hb, hls, hS, ex, h => OkS.lnil (h S v5 e ex)
  | k :: r, s, S, B, v5, e, h2, h6, hB2, hB, hb, hls, hS, ex, h => by
    have hk : kB k B ≤ rB r (kB k B) := rB_ge r _ (Nat.le_trans (by omega) (kB_le k B (by omega)))
    have hkB := kB_le k B (by omega)
    have hB' : rB r (kB k B) ≤ 9000 := hB
    simp only [List.map_cons]
    refine OkS.lcons ?_
    unfold L_x_run_1
    and_intros
    refine (x_press e hS ex sub h2 h6 hB2 (by omega) hb.1 hl k).imp ?_
    rintro d S' ⟨rfl, e', ex'⟩
    and_intros
    have e2 := pressN_len (deep := deep) (ks := ks) (l := ls) (k := k) h2
    exact x_run_loop hl sub r e' (by omega) (by omega) (by omega) hB' (pressN_bnd hB2 hls hb k) (fun x hx => pow_up (hls x hx) hkB) hS ex' h
theorem x_run_ok {ls : List Int} (hl : Lets l ls) (r : List Ky) (sub : ∀ k ∈ ks, k ∈ KEEPS) (h2 : 2 ≤ s.lv.length) (h6 : s.lv.length ≤ 6) {B : Nat} (hB2 : 2 ≤ B) (hB : rB r B ≤ 9000) (hx : bnds B s) (hls : ∀ x ∈ ls, Int.natAbs x < 10 ^ B) :
    Ok (F_x_run [rulesD size deep ks, stD s, rowD r, l] S) fun d S' => d = stD (runN deep ks ls r s) ∧ Ext S S' := by
  with_reducible refine Ok.def_ ?_
  simp only [frame0, List.map_cons, List.map_nil, List.length_cons, List.length_nil, Nat.reduceAdd, Nat.reduceSub, Nat.zero_add, List.reduceReplicate, List.cons_append, List.nil_append]
  unfold B_x_run
  and_intros
  refine x_world.imp ?_
  rintro d S1 ⟨o, rfl, ho, e, ex⟩
  and_intros
  unfold rowD
  and_intros
  refine x_run_loop (S0 := S) hl sub r e h2 h6 hB2 hB hx hls ho ex ?_
  intro S' v5 e' ex'
  and_intros
  refine Ok.dget e' rfl w_levels.2 ?_
  and_intros
  refine Ok.dget e' rfl w_last.2 ?_
  and_intros
  refine Ok.dget e' rfl w_memory.2 ?_
  and_intros
  refine Ok.dget e' rfl w_mode.2 ?_
  and_intros
  exact ⟨rfl, ex'⟩
end
end DL.Lb
namespace DL.Lb
open PySem PySem.Spec PyProof.Rows L2 DL
local macro_rules | `(tactic| and_intros) => `(tactic| repeat (first | with_reducible refine Ok.sli_tail ?_ | ((with_reducible refine Ok.var ?_); refine ⟨_, rfl, ?_⟩) | ((with_reducible refine Fr.go ?_); intro fr_ e_; simp only [List.set_cons_zero, List.set_cons_succ, setAll, wipeF] at e_; subst e_) | with_reducible refine Ok.bin ?_ | with_reducible refine Ok.calp ?_ | with_reducible refine Ok.cal ?_ | with_reducible refine Ok.cst ?_ | with_reducible refine Ok.acons ?_ | with_reducible refine Ok.anil ?_ | with_reducible refine Ok.un ?_ | with_reducible refine Ok.tb ?_ | with_reducible refine Ok.tsb ?_ | with_reducible refine OkS.seq ?_ | with_reducible refine OkS.asg ?_ | with_reducible refine Then.nx ?_ | with_reducible refine Then.rt ?_ | with_reducible refine OkS.ifS ?_ | with_reducible refine Ok.notF ?_ | with_reducible refine Ok.andF ?_ | with_reducible refine Ok.orF ?_ | with_reducible refine Ok.ite ?_ | with_reducible refine Br.t ?_ | with_reducible refine Br.f ?_ | with_reducible refine Br.not ?_ | ((with_reducible refine OkS.aug ?_); refine ⟨_, rfl, ?_⟩) | ((with_reducible refine Ok.ix_t ?_); refine ⟨_, rfl, ?_⟩) | ((with_reducible refine Ok.ix_l ?_); refine ⟨_, rfl, ?_⟩) | ((with_reducible refine Ok.tgT ?_ ?_); exact rfl) | with_reducible refine Ok.tup ?_ | with_reducible refine Ok.lst ?_ | with_reducible refine Ok.lstO ?_ | with_reducible refine Ok.tst ?_ | with_reducible refine Ok.tru_bl ?_ | with_reducible refine Ok.tru_non ?_ | with_reducible refine Ok.tru_tup ?_ | with_reducible refine Ok.tru_lst ?_ | with_reducible refine Ok.tru_int ?_ | with_reducible refine Ok.boolF ?_ | with_reducible refine Ok.andV ?_ | with_reducible refine Ok.orV ?_ | with_reducible refine Ok.notV ?_ | with_reducible refine Ok.yes ?_ | with_reducible refine Ok.prtN ?_ | with_reducible refine Ok.prtS ?_ | with_reducible refine Ok.sli ?_ | with_reducible refine Ok.chF ?_ | with_reducible refine Ok.exi ?_ | with_reducible refine Ok.exb ?_ | with_reducible refine Ok.add_ii ?_ | with_reducible refine Ok.sub_ii ?_ | with_reducible refine Ok.neg_i ?_ | with_reducible refine Ok.lt_ii ?_ | with_reducible refine Ok.le_ii ?_ | with_reducible refine Ok.gt_ii ?_ | with_reducible refine Ok.ge_ii ?_ | with_reducible refine Ok.eq_ii ?_ | with_reducible refine Ok.ne_ii ?_ | with_reducible refine Ok.eq_ss ?_ | with_reducible refine Ok.ne_ss ?_ | with_reducible refine Ok.in_ss ?_ | with_reducible refine Ok.nin_ss ?_ | with_reducible refine Ok.is_nn ?_ | with_reducible refine Ok.int_i ?_ | with_reducible refine Ok.int_b ?_ | with_reducible refine Ok.str_s ?_ | with_reducible refine Ok.max_ii ?_ | with_reducible refine Ok.min_ii ?_ | with_reducible refine Ok.len_t ?_ | with_reducible refine Ok.len_l ?_ | with_reducible refine Ok.tup_t ?_ | with_reducible refine Ok.tup_l ?_ | with_reducible refine Ok.lst_t ?_ | with_reducible refine Ok.lst_l ?_ | with_reducible refine Ok.sli_t ?_ | with_reducible refine Ok.sli_l ?_ | with_reducible refine OkS.ret ?_ | with_reducible refine OkS.retN ?_ | with_reducible refine OkS.expr ?_ | with_reducible refine OkS.nx ?_ | with_reducible refine OkS.bk ?_ | with_reducible refine OkS.ct ?_ | with_reducible refine Then.bk ?_ | with_reducible refine Then.ct ?_ | with_reducible refine Rt.rt ?_ | with_reducible refine Rt.nx ?_ | with_reducible refine Lp.nx ?_ | with_reducible refine Lp.ct ?_ | with_reducible refine Lp.bk ?_ | with_reducible refine Lp.rt ?_ | with_reducible refine OkS.asgG ?_ | with_reducible refine OkS.par ?_ | with_reducible refine Ok.iadd_ii ?_ | with_reducible refine Ok.isub_ii ?_ | with_reducible refine Ok.tgN ?_ | with_reducible refine Ok.tgA0 ?_ | with_reducible refine Ok.tgA ?_ | with_reducible refine Ok.tgSub ?_ | with_reducible refine Ok.rngF ?_ | with_reducible refine Ok.cmpD ?_ | with_reducible refine Ok.cmpO ?_ | with_reducible refine Ok.ret ?_ | with_reducible refine Ok.ok ?_ | with_reducible refine Ok.newO ?_ | with_reducible refine Ok.bnd ?_ | with_reducible refine OkS.fore ?_ | with_reducible refine Ok.cmpe ?_ | with_reducible refine Ok.itT ?_ | with_reducible refine ItQ.tup ?_ | with_reducible refine ItQ.lst ?_ | with_reducible refine ItQ.ctu ?_ | with_reducible refine SrcQ.con ?_ | with_reducible refine SrcQ.tup ?_ | with_reducible refine SrcQ.lst ?_ | with_reducible refine SrcQ.ctu ?_ | ((with_reducible refine Ok.mod_ii ?_ ?_); (first | decide | (simp; done) | (simp; omega))) | ((with_reducible refine Ok.add_tt ?_ ?_); (first | decide | (simp; done) | (simp; omega))) | ((with_reducible refine Ok.add_ll ?_ ?_); (first | decide | (simp; done) | (simp; omega))) | ((with_reducible refine Ok.add_ss ?_ ?_); (first | decide | (simp; done) | (simp; omega))) | ((with_reducible refine Ok.rng1 ?_ ?_); (first | decide | omega | (simp; omega))) | ((with_reducible refine Br.dt ?_ ?_); (first | assumption | exact rfl | omega | decide +kernel)) | ((with_reducible refine Br.df ?_ ?_); (first | assumption | omega | decide +kernel)) | ((with_reducible refine Br.tt ?_ ?_); (first | assumption | decide +kernel)) | ((with_reducible refine Br.ff ?_ ?_); (first | assumption | decide +kernel)) | with_reducible refine Ok.is_in ?_ | with_reducible refine Ok.is_tn ?_ | with_reducible refine Ok.is_bn ?_ | with_reducible refine Ok.is_sn ?_ | with_reducible refine Ok.nis_in ?_ | with_reducible refine Ok.nis_tn ?_ | with_reducible refine Ok.nis_bn ?_ | with_reducible refine Ok.nis_sn ?_ | with_reducible refine OkS.lcons ?_ | with_reducible refine OkS.lnil ?_ | with_reducible refine Ok.icons ?_ | with_reducible refine Ok.inil ?_ | with_reducible refine Ok.is_bb ?_ | with_reducible refine Ok.nis_bb ?_ | with_reducible refine Ok.nis_nn ?_ | with_reducible refine Ok.pcons ?_ | with_reducible refine Ok.pnil ?_ | with_reducible refine Ok.dctK ?_ | with_reducible refine Ok.tgDic ?_ | with_reducible refine Ok.fld ?_ | with_reducible refine Ok.tgAtt ?_ | with_reducible refine Ok.makO ?_ | ((with_reducible refine Ok.isi_tup (p := true) ?_ ?_); decide +kernel) | ((with_reducible refine Ok.isi_tup (p := false) ?_ ?_); decide +kernel) | ((with_reducible refine Ok.isi_int (p := true) ?_ ?_); decide +kernel) | ((with_reducible refine Ok.isi_int (p := false) ?_ ?_); decide +kernel) | ((with_reducible refine Ok.isi_str (p := true) ?_ ?_); decide +kernel) | ((with_reducible refine Ok.isi_str (p := false) ?_ ?_); decide +kernel) | ((with_reducible refine Ok.isi_lst (p := true) ?_ ?_); decide +kernel) | ((with_reducible refine Ok.isi_lst (p := false) ?_ ?_); decide +kernel) | ((with_reducible refine Ok.isi_bl (p := true) ?_ ?_); decide +kernel) | ((with_reducible refine Ok.isi_bl (p := false) ?_ ?_); decide +kernel) | ((with_reducible refine Ok.isi_non (p := true) ?_ ?_); decide +kernel) | ((with_reducible refine Ok.isi_non (p := false) ?_ ?_); decide +kernel) | ((with_reducible refine Ok.isi_ctu (p := true) ?_ ?_); decide +kernel) | ((with_reducible refine Ok.isi_ctu (p := false) ?_ ?_); decide +kernel) | ((with_reducible refine Ok.isi_emp (p := true) ?_ ?_); decide +kernel) | ((with_reducible refine Ok.isi_emp (p := false) ?_ ?_); decide +kernel) | (with_reducible refine Ok.disp ?_)))
section
variable {S : Store} {QD : D → Store → Prop} {n m q : Nat}
def MENU : List (List Str) := [[], ["*", "+", "-"], ["*", "+", "-", "neg"], ["neg"], ["+"], ["*", "-"]]
def DEEPS : List Str := ["copy", "nought"]
def WAYS : List Str := ["free", "held", "open"]
theorem MENU_keeps : ∀ ks ∈ MENU, ∀ k ∈ ks, k ∈ KEEPS := by decide +kernel
theorem Ok.rules (dk : Dk n m q S) (hb : 3 ≤ q) (h : ∀ (size : Int) (deep : Str) (ks : List Str) S', 2 ≤ size → size ≤ 6 → deep ∈ DEEPS → ks ∈ MENU → Dk n m (q - 3) S' → Keep n m S S' → QD (rulesD size deep ks) S') : Ok (F_x_rules [.ob n] S) QD := by
  with_reducible refine Ok.def_ ?_
  simp only [frame0, List.map_cons, List.map_nil, List.length_cons, List.length_nil, Nat.reduceAdd, Nat.reduceSub, Nat.zero_add, List.reduceReplicate, List.cons_append, List.nil_append]
  unfold B_x_rules
  and_intros
  refine Ok.one dk (by omega) (.inl rfl) (by simp) (by simp) ?_
  intro x S1 hx dk1 k1
  and_intros
  refine Ok.one dk1 (by omega) (.inl rfl) (by simp) (by simp) ?_
  intro y S2 hy dk2 k2
  and_intros
  refine Ok.one dk2 (by omega) (.inl rfl) (by simp) (by simp) ?_
  intro z S3 hz dk3 k3
  and_intros
  obtain ⟨size, rfl, s2, s6⟩ : ∃ size : Int, x = .int size ∧ 2 ≤ size ∧ size ≤ 6 := by
    simp only [List.mem_cons, List.not_mem_nil, or_false] at hx
    rcases hx with rfl | rfl | rfl | rfl | rfl
    · exact ⟨2, rfl, by omega, by omega⟩
    · exact ⟨3, rfl, by omega, by omega⟩
    · exact ⟨4, rfl, by omega, by omega⟩
    · exact ⟨5, rfl, by omega, by omega⟩
    · exact ⟨6, rfl, by omega, by omega⟩
  obtain ⟨deep, rfl, hd⟩ : ∃ deep : Str, y = .str deep ∧ deep ∈ DEEPS := by
    simp only [List.mem_cons, List.not_mem_nil, or_false] at hy
    rcases hy with rfl | rfl
    · exact ⟨_, rfl, by decide +kernel⟩
    · exact ⟨_, rfl, by decide +kernel⟩
  obtain ⟨ks, rfl, hk⟩ : ∃ ks : List Str, z = .tup (ks.map .str) ∧ ks ∈ MENU := by
    simp only [List.mem_cons, List.not_mem_nil, or_false] at hz
    rcases hz with rfl | rfl | rfl | rfl | rfl | rfl
    · exact ⟨[], rfl, by decide +kernel⟩
    · exact ⟨["*", "+", "-"], rfl, by decide +kernel⟩
    · exact ⟨["*", "+", "-", "neg"], rfl, by decide +kernel⟩
    · exact ⟨["neg"], rfl, by decide +kernel⟩
    · exact ⟨["+"], rfl, by decide +kernel⟩
    · exact ⟨["*", "-"], rfl, by decide +kernel⟩
  exact h size deep ks S3 s2 s6 hd hk (dk3.mono (by omega)) ((k1.trans k2).trans k3)
theorem Ok.mode (dk : Dk n m q S) (hb : 1 ≤ q) (h : ∀ (way : Str) S', way ∈ WAYS → Dk n m (q - 1) S' → Keep n m S S' → QD (.str way) S') : Ok (F_x_mode [.ob n] S) QD := by
  with_reducible refine Ok.def_ ?_
  simp only [frame0, List.map_cons, List.map_nil, List.length_cons, List.length_nil, Nat.reduceAdd, Nat.reduceSub, Nat.zero_add, List.reduceReplicate, List.cons_append, List.nil_append]
  unfold B_x_mode
  and_intros
  refine Ok.one dk (by omega) (.inl rfl) (by simp) (by simp) ?_
  intro x S1 hx dk1 k1
  and_intros
  obtain ⟨deep, rfl, hd⟩ : ∃ deep : Str, x = .str deep ∧ deep ∈ WAYS := by
    simp only [List.mem_cons, List.not_mem_nil, or_false] at hx
    rcases hx with rfl | rfl | rfl
    · exact ⟨_, rfl, by decide +kernel⟩
    · exact ⟨_, rfl, by decide +kernel⟩
    · exact ⟨_, rfl, by decide +kernel⟩
  exact h deep S1 hd dk1 k1
theorem Ok.numbersI {many : Nat} {i : Int} (hi : i = many) (dk : Dk n m q S) (hb : 3 * many ≤ q) (hm : many ≤ 1000) (h : ∀ (l : List Int) S', l.length = many → (∀ i ∈ l, Int.natAbs i < 10 ^ 40) → Dk n m (q - 3 * many) S' → Keep n m S S' → QD (.tup (l.map .int)) S') : Ok (F_x_numbers [.ob n, .int i] S) QD := by
  have key : ∀ i : Int, i = many → Ok (defF 3 (numbersB (defF 3 (numberB (defF 5 drawB) (defF 2 (oneB (defF 5 drawB)))))) [.ob n, .int i] S) QD := by
    intro i hi
    subst hi
    with_reducible exact Ok.numbers dk hb hm h
  exact key i hi
theorem Ok.state {size : Nat} {z : Int} (hz : z = size) {way : Str} (dk : Dk n m q S) (hb : 3 * size + 6 ≤ q) (hs : size ≤ 1000) (h : ∀ (s : St) S', s.lv.length = size → s.way = way → bnds 40 s → Dk n m (q - (3 * size + 6)) S' → Keep n m S S' → QD (stD s) S') : Ok (F_x_state [.ob n, .int z, .str way] S) QD := by
  with_reducible refine Ok.def_ ?_
  simp only [frame0, List.map_cons, List.map_nil, List.length_cons, List.length_nil, Nat.reduceAdd, Nat.reduceSub, Nat.zero_add, List.reduceReplicate, List.cons_append, List.nil_append]
  unfold B_x_state
  and_intros
  refine Ok.numbersI hz dk (by omega) hs ?_
  intro l S1 hl hlb dk1 k1
  and_intros
  refine Ok.number dk1 (by omega) ?_
  intro i S2 hi dk2 k2
  and_intros
  refine Ok.number dk2 (by omega) ?_
  intro j S3 hj dk3 k3
  and_intros
  exact h ⟨l, i, j, way⟩ S3 hl rfl ⟨hlb, hi, hj⟩ (dk3.mono (by omega)) ((k1.trans k2).trans k3)
theorem digit_ky (i : Int) (h0 : 0 ≤ i) (h : i < 10) : ∃ k : Ky, Str.ofString (toString i) = k.s ∧ k ≠ .times := by
  obtain ⟨n, rfl⟩ : ∃ n : Nat, i = n := ⟨i.toNat, by omega⟩
  have h' : n < 10 := by omega
  exact ⟨.dig ⟨n, h'⟩, (dig_ok ⟨n, h'⟩).2.2.2, by simp⟩
theorem Ok.key (dk : Dk n m q S) (hb : 2 ≤ q) (h : ∀ (k : Ky) S', Dk n m (q - 2) S' → Keep n m S S' → QD (.str k.s) S') : Ok (F_x_key [.ob n] S) QD := by
  with_reducible refine Ok.def_ ?_
  simp only [frame0, List.map_cons, List.map_nil, List.length_cons, List.length_nil, Nat.reduceAdd, Nat.reduceSub, Nat.zero_add, List.reduceReplicate, List.cons_append, List.nil_append]
  unfold B_x_key
  and_intros
  refine Ok.draw dk (by omega) (by decide) (by decide) ?_
  intro i S1 i0 i1 dk1 k1
  and_intros
  obtain ⟨k0, e0, -⟩ := digit_ky i i0 i1
  have lg : i.natAbs.log2 < 1920 := log_small (show i.natAbs < 128 by omega)
  with_reducible refine Ok.str_i lg ?_
  rw [e0]
  and_intros
  refine Ok.one dk1 (by omega) (.inl rfl) (by simp) (by simp) ?_
  intro x S2 hx dk2 k2
  and_intros
  have fin : ∀ k : Ky, x = .str k.s → QD x S2 := fun k e => by
    rw [e] 
    exact h k S2 (dk2.mono (by omega)) (k1.trans k2)
  simp only [List.cons_append, List.nil_append, List.mem_cons, List.not_mem_nil, or_false] at hx
  rcases hx with e | e | e | e | e | e | e | e | e | e | e | e | e | e | e | e | e | e | e | e | e | e
  · exact fin .plus e
  · exact fin .plus e
  · exact fin .minus e
  · exact fin .minus e
  · exact fin .times e
  · exact fin .times e
  · exact fin (.lett 0) e
  · exact fin (.lett 1) e
  · exact fin (.lett 2) e
  · exact fin (.lett 3) e
  · exact fin k0 e
  · exact fin .enter e
  · exact fin .enter e
  · exact fin .neg e
  · exact fin .swap e
  · exact fin .swap e
  · exact fin .down e
  · exact fin .up e
  · exact fin .last e
  · exact fin .clear e
  · exact fin .put e
  · exact fin .get e
end
end DL.Lb
namespace DL.Lb
open PySem PySem.Spec PyProof.Rows L2 DL
section
variable {S : Store} {QD : D → Store → Prop} {QL : List D → Store → Prop} {n m q : Nat} {l : List D} {x : D} {g : D → Frame → M Frame} {t : Frame → M Bool} {elt : Frame → M D} {fr : Frame} {a b : Str}
theorem Ok.all_l {bs : List Bool} (h : blsL l = some bs ∧ bs.all id = true ∧ QD (.bl true) S) : Ok (allD [.lst l] S) QD := by
  obtain ⟨e, e2, h⟩ := h
  refine Ok.of (v := .bl true) (S1 := S) ?_ h
  unfold allD oneL
  simp only [lstL_lst, Option.bind, e, e2]
theorem Ok.zip_tt {l m : List D} {QS : Src → Store → Prop} (h : QS (fun _ => some (zipL l m)) S) : Ok (zipS [.tup l, .tup m] S) QS := h
theorem Ok.sli_nil {lo hi : Option Int} (h : QD (.tup []) S) : Ok (sliD (.tup []) lo hi S) QD := by
  show QD (.tup (DL.cutD [] lo hi)) S
  have e : DL.cutD [] lo hi = [] := by unfold DL.cutD; simp
  rw [e]
  exact h
theorem Ok.in_sk {ks : List Str} (ha : PyData.strOk a = true) (hk : ∀ a ∈ ks, PyData.strOk a = true) (h : QD (.bl (decide (a ∈ ks))) S) : Ok (inD (.str a) (.ctu (ks.map .str)) S) QD := Ok.in_sc ha hk h
end
local macro_rules | `(tactic| and_intros) => `(tactic| repeat (first | with_reducible refine Ok.sli_nil ?_ | ((with_reducible refine Ok.in_sk ?_ ?_ ?_); (decide +kernel); (decide +kernel)) | with_reducible refine Ok.lt_ss ?_ | with_reducible refine Ok.zip_tt ?_ | ((with_reducible refine Ok.tgT ?_ ?_); (exact rfl)) | ((with_reducible refine Ok.in_td ?_ ?_ ?_ ?_); (exact rfl); (decide +kernel); (decide +kernel)) | with_reducible refine Ok.sli_tail ?_ | ((with_reducible refine Ok.var ?_); refine ⟨_, rfl, ?_⟩) | ((with_reducible refine Fr.go ?_); intro fr_ e_; simp only [List.set_cons_zero, List.set_cons_succ, setAll, wipeF] at e_; subst e_) | with_reducible refine Ok.bin ?_ | with_reducible refine Ok.calp ?_ | with_reducible refine Ok.cal ?_ | with_reducible refine Ok.cst ?_ | with_reducible refine Ok.acons ?_ | with_reducible refine Ok.anil ?_ | with_reducible refine Ok.un ?_ | with_reducible refine Ok.tb ?_ | with_reducible refine Ok.tsb ?_ | with_reducible refine OkS.seq ?_ | with_reducible refine OkS.asg ?_ | with_reducible refine Then.nx ?_ | with_reducible refine Then.rt ?_ | with_reducible refine OkS.ifS ?_ | with_reducible refine Ok.notF ?_ | with_reducible refine Ok.andF ?_ | with_reducible refine Ok.orF ?_ | with_reducible refine Ok.ite ?_ | with_reducible refine Br.t ?_ | with_reducible refine Br.f ?_ | with_reducible refine Br.not ?_ | ((with_reducible refine OkS.aug ?_); refine ⟨_, rfl, ?_⟩) | ((with_reducible refine Ok.ix_t ?_); refine ⟨_, rfl, ?_⟩) | ((with_reducible refine Ok.ix_l ?_); refine ⟨_, rfl, ?_⟩) | ((with_reducible refine Ok.tgT ?_ ?_); exact rfl) | with_reducible refine Ok.tup ?_ | with_reducible refine Ok.lst ?_ | with_reducible refine Ok.lstO ?_ | with_reducible refine Ok.tst ?_ | with_reducible refine Ok.tru_bl ?_ | with_reducible refine Ok.tru_non ?_ | with_reducible refine Ok.tru_tup ?_ | with_reducible refine Ok.tru_lst ?_ | with_reducible refine Ok.tru_int ?_ | with_reducible refine Ok.boolF ?_ | with_reducible refine Ok.andV ?_ | with_reducible refine Ok.orV ?_ | with_reducible refine Ok.notV ?_ | with_reducible refine Ok.yes ?_ | with_reducible refine Ok.prtN ?_ | with_reducible refine Ok.prtS ?_ | with_reducible refine Ok.sli ?_ | with_reducible refine Ok.chF ?_ | with_reducible refine Ok.exi ?_ | with_reducible refine Ok.exb ?_ | with_reducible refine Ok.add_ii ?_ | with_reducible refine Ok.sub_ii ?_ | with_reducible refine Ok.neg_i ?_ | with_reducible refine Ok.lt_ii ?_ | with_reducible refine Ok.le_ii ?_ | with_reducible refine Ok.gt_ii ?_ | with_reducible refine Ok.ge_ii ?_ | with_reducible refine Ok.eq_ii ?_ | with_reducible refine Ok.ne_ii ?_ | with_reducible refine Ok.eq_ss ?_ | with_reducible refine Ok.ne_ss ?_ | with_reducible refine Ok.in_ss ?_ | with_reducible refine Ok.nin_ss ?_ | with_reducible refine Ok.is_nn ?_ | with_reducible refine Ok.int_i ?_ | with_reducible refine Ok.int_b ?_ | with_reducible refine Ok.str_s ?_ | with_reducible refine Ok.max_ii ?_ | with_reducible refine Ok.min_ii ?_ | with_reducible refine Ok.len_t ?_ | with_reducible refine Ok.len_l ?_ | with_reducible refine Ok.tup_t ?_ | with_reducible refine Ok.tup_l ?_ | with_reducible refine Ok.lst_t ?_ | with_reducible refine Ok.lst_l ?_ | with_reducible refine Ok.sli_t ?_ | with_reducible refine Ok.sli_l ?_ | with_reducible refine OkS.ret ?_ | with_reducible refine OkS.retN ?_ | with_reducible refine OkS.expr ?_ | with_reducible refine OkS.nx ?_ | with_reducible refine OkS.bk ?_ | with_reducible refine OkS.ct ?_ | with_reducible refine Then.bk ?_ | with_reducible refine Then.ct ?_ | with_reducible refine Rt.rt ?_ | with_reducible refine Rt.nx ?_ | with_reducible refine Lp.nx ?_ | with_reducible refine Lp.ct ?_ | with_reducible refine Lp.bk ?_ | with_reducible refine Lp.rt ?_ | with_reducible refine OkS.asgG ?_ | with_reducible refine OkS.par ?_ | with_reducible refine Ok.iadd_ii ?_ | with_reducible refine Ok.isub_ii ?_ | with_reducible refine Ok.tgN ?_ | with_reducible refine Ok.tgA0 ?_ | with_reducible refine Ok.tgA ?_ | with_reducible refine Ok.tgSub ?_ | with_reducible refine Ok.rngF ?_ | with_reducible refine Ok.cmpD ?_ | with_reducible refine Ok.cmpO ?_ | with_reducible refine Ok.ret ?_ | with_reducible refine Ok.ok ?_ | with_reducible refine Ok.newO ?_ | with_reducible refine Ok.bnd ?_ | with_reducible refine OkS.fore ?_ | with_reducible refine Ok.cmpe ?_ | with_reducible refine Ok.itT ?_ | with_reducible refine ItQ.tup ?_ | with_reducible refine ItQ.lst ?_ | with_reducible refine ItQ.ctu ?_ | with_reducible refine SrcQ.con ?_ | with_reducible refine SrcQ.tup ?_ | with_reducible refine SrcQ.lst ?_ | with_reducible refine SrcQ.ctu ?_ | ((with_reducible refine Ok.mod_ii ?_ ?_); (first | decide | (simp; done) | (simp; omega))) | ((with_reducible refine Ok.add_tt ?_ ?_); (first | decide | (simp; done) | (simp; omega))) | ((with_reducible refine Ok.add_ll ?_ ?_); (first | decide | (simp; done) | (simp; omega))) | ((with_reducible refine Ok.add_ss ?_ ?_); (first | decide | (simp; done) | (simp; omega))) | ((with_reducible refine Ok.rng1 ?_ ?_); (first | decide | omega | (simp; omega))) | ((with_reducible refine Br.dt ?_ ?_); (first | assumption | exact rfl | omega | decide +kernel)) | ((with_reducible refine Br.df ?_ ?_); (first | assumption | omega | decide +kernel)) | ((with_reducible refine Br.tt ?_ ?_); (first | assumption | decide +kernel)) | ((with_reducible refine Br.ff ?_ ?_); (first | assumption | decide +kernel)) | with_reducible refine Ok.is_in ?_ | with_reducible refine Ok.is_tn ?_ | with_reducible refine Ok.is_bn ?_ | with_reducible refine Ok.is_sn ?_ | with_reducible refine Ok.nis_in ?_ | with_reducible refine Ok.nis_tn ?_ | with_reducible refine Ok.nis_bn ?_ | with_reducible refine Ok.nis_sn ?_ | with_reducible refine OkS.lcons ?_ | with_reducible refine OkS.lnil ?_ | with_reducible refine Ok.icons ?_ | with_reducible refine Ok.inil ?_ | with_reducible refine Ok.is_bb ?_ | with_reducible refine Ok.nis_bb ?_ | with_reducible refine Ok.nis_nn ?_ | with_reducible refine Ok.pcons ?_ | with_reducible refine Ok.pnil ?_ | with_reducible refine Ok.dctK ?_ | with_reducible refine Ok.tgDic ?_ | with_reducible refine Ok.fld ?_ | with_reducible refine Ok.tgAtt ?_ | with_reducible refine Ok.makO ?_ | ((with_reducible refine Ok.isi_tup (p := true) ?_ ?_); decide +kernel) | ((with_reducible refine Ok.isi_tup (p := false) ?_ ?_); decide +kernel) | ((with_reducible refine Ok.isi_int (p := true) ?_ ?_); decide +kernel) | ((with_reducible refine Ok.isi_int (p := false) ?_ ?_); decide +kernel) | ((with_reducible refine Ok.isi_str (p := true) ?_ ?_); decide +kernel) | ((with_reducible refine Ok.isi_str (p := false) ?_ ?_); decide +kernel) | ((with_reducible refine Ok.isi_lst (p := true) ?_ ?_); decide +kernel) | ((with_reducible refine Ok.isi_lst (p := false) ?_ ?_); decide +kernel) | ((with_reducible refine Ok.isi_bl (p := true) ?_ ?_); decide +kernel) | ((with_reducible refine Ok.isi_bl (p := false) ?_ ?_); decide +kernel) | ((with_reducible refine Ok.isi_non (p := true) ?_ ?_); decide +kernel) | ((with_reducible refine Ok.isi_non (p := false) ?_ ?_); decide +kernel) | ((with_reducible refine Ok.isi_ctu (p := true) ?_ ?_); decide +kernel) | ((with_reducible refine Ok.isi_ctu (p := false) ?_ ?_); decide +kernel) | ((with_reducible refine Ok.isi_emp (p := true) ?_ ?_); decide +kernel) | ((with_reducible refine Ok.isi_emp (p := false) ?_ ?_); decide +kernel) | (with_reducible refine Ok.disp ?_)))
section
variable {S : Store} {QD : D → Store → Prop} {n m q : Nat}
theorem is_integer_ {i a b : Int} {Q : D → Store → Prop} (h : Q (.bl (decide (a ≤ i) && decide (i ≤ b))) S) : Ok (F_is_integer [.int i, .int a, .int b] S) Q := by
  with_reducible refine Ok.def_ ?_
  simp only [frame0, List.map_cons, List.map_nil, List.length_cons, List.length_nil, Nat.reduceAdd, Nat.reduceSub, Nat.zero_add, List.reduceReplicate, List.cons_append, List.nil_append]
  unfold B_is_integer
  and_intros
  refine Br.spd (fun c => ?_) (fun c => ?_)
  · and_intros
    rw [decide_eq_true c] at h
    exact h
  · and_intros
    rw [decide_eq_false c] at h
    exact h
theorem are_keeps_ : ∀ ks ∈ MENU, ∀ {S : Store} {Q : D → Store → Prop}, Q (.bl true) S → Ok (F_are_keeps [.tup (ks.map .str)] S) Q := by
  intro ks hk S Q h
  simp only [MENU, List.mem_cons, List.not_mem_nil, or_false] at hk
  rcases hk with rfl | rfl | rfl | rfl | rfl | rfl
  · simp only [List.map_cons, List.map_nil]
    with_reducible refine Ok.def_ ?_
    simp only [frame0, List.map_cons, List.map_nil, List.length_cons, List.length_nil, Nat.reduceAdd, Nat.reduceSub, Nat.zero_add, List.reduceReplicate, List.cons_append, List.nil_append]
    unfold B_are_keeps E_are_keeps_1 E_are_keeps_2
    and_intros
    refine ⟨by simp, ?_⟩
    and_intros
    refine Ok.all_l ⟨rfl, by decide +kernel, ?_⟩
    and_intros
    simp only [zipL]
    and_intros
    refine ⟨by simp, ?_⟩
    and_intros
    refine Ok.all_l ⟨rfl, by decide +kernel, ?_⟩
    and_intros
    exact h
  · simp only [List.map_cons, List.map_nil]
    with_reducible refine Ok.def_ ?_
    simp only [frame0, List.map_cons, List.map_nil, List.length_cons, List.length_nil, Nat.reduceAdd, Nat.reduceSub, Nat.zero_add, List.reduceReplicate, List.cons_append, List.nil_append]
    unfold B_are_keeps E_are_keeps_1 E_are_keeps_2
    and_intros
    refine ⟨by simp, ?_⟩
    and_intros
    refine Ok.all_l ⟨rfl, by decide +kernel, ?_⟩
    and_intros
    simp only [zipL]
    and_intros
    refine ⟨by simp, ?_⟩
    and_intros
    refine Ok.all_l ⟨rfl, by decide +kernel, ?_⟩
    and_intros
    exact h
  · simp only [List.map_cons, List.map_nil]
    with_reducible refine Ok.def_ ?_
    simp only [frame0, List.map_cons, List.map_nil, List.length_cons, List.length_nil, Nat.reduceAdd, Nat.reduceSub, Nat.zero_add, List.reduceReplicate, List.cons_append, List.nil_append]
    unfold B_are_keeps E_are_keeps_1 E_are_keeps_2
    and_intros
    refine ⟨by simp, ?_⟩
    and_intros
    refine Ok.all_l ⟨rfl, by decide +kernel, ?_⟩
    and_intros
    simp only [zipL]
    and_intros
    refine ⟨by simp, ?_⟩
    and_intros
    refine Ok.all_l ⟨rfl, by decide +kernel, ?_⟩
    and_intros
    exact h
  · simp only [List.map_cons, List.map_nil]
    with_reducible refine Ok.def_ ?_
    simp only [frame0, List.map_cons, List.map_nil, List.length_cons, List.length_nil, Nat.reduceAdd, Nat.reduceSub, Nat.zero_add, List.reduceReplicate, List.cons_append, List.nil_append]
    unfold B_are_keeps E_are_keeps_1 E_are_keeps_2
    and_intros
    refine ⟨by simp, ?_⟩
    and_intros
    refine Ok.all_l ⟨rfl, by decide +kernel, ?_⟩
    and_intros
    simp only [zipL]
    and_intros
    refine ⟨by simp, ?_⟩
    and_intros
    refine Ok.all_l ⟨rfl, by decide +kernel, ?_⟩
    and_intros
    exact h
  · simp only [List.map_cons, List.map_nil]
    with_reducible refine Ok.def_ ?_
    simp only [frame0, List.map_cons, List.map_nil, List.length_cons, List.length_nil, Nat.reduceAdd, Nat.reduceSub, Nat.zero_add, List.reduceReplicate, List.cons_append, List.nil_append]
    unfold B_are_keeps E_are_keeps_1 E_are_keeps_2
    and_intros
    refine ⟨by simp, ?_⟩
    and_intros
    refine Ok.all_l ⟨rfl, by decide +kernel, ?_⟩
    and_intros
    simp only [zipL]
    and_intros
    refine ⟨by simp, ?_⟩
    and_intros
    refine Ok.all_l ⟨rfl, by decide +kernel, ?_⟩
    and_intros
    exact h
  · simp only [List.map_cons, List.map_nil]
    with_reducible refine Ok.def_ ?_
    simp only [frame0, List.map_cons, List.map_nil, List.length_cons, List.length_nil, Nat.reduceAdd, Nat.reduceSub, Nat.zero_add, List.reduceReplicate, List.cons_append, List.nil_append]
    unfold B_are_keeps E_are_keeps_1 E_are_keeps_2
    and_intros
    refine ⟨by simp, ?_⟩
    and_intros
    refine Ok.all_l ⟨rfl, by decide +kernel, ?_⟩
    and_intros
    simp only [zipL]
    and_intros
    refine ⟨by simp, ?_⟩
    and_intros
    refine Ok.all_l ⟨rfl, by decide +kernel, ?_⟩
    and_intros
    exact h
theorem DEEPS_ok : ∀ a ∈ DEEPS, PyData.strOk a = true := by decide +kernel
theorem box_ {size : Int} {deep : Str} {ks : List Str} (h2 : 2 ≤ size) (h6 : size ≤ 6) (hd : deep ∈ DEEPS) (hk : ks ∈ MENU) : Ok (F_x_box [rulesD size deep ks] S) fun d S' => ∃ b, d = .ob b ∧ S'[b]? = some (some (.ins "Box" (bf size deep ks))) ∧ Ext S S' := by
  unfold rulesD
  with_reducible refine Ok.def_ ?_
  simp only [frame0, List.map_cons, List.map_nil, List.length_cons, List.length_nil, Nat.reduceAdd, Nat.reduceSub, Nat.zero_add, List.reduceReplicate, List.cons_append, List.nil_append]
  unfold B_x_box
  and_intros
  refine Ok.mak ?_
  and_intros
  with_reducible refine Ok.def_ ?_
  simp only [frame0, List.map_cons, List.map_nil, List.length_cons, List.length_nil, Nat.reduceAdd, Nat.reduceSub, Nat.zero_add, List.reduceReplicate, List.cons_append, List.nil_append]
  unfold B_Box_init
  and_intros
  refine is_integer_ ?_
  and_intros
  rw [decide_eq_true h2, decide_eq_true h6]
  and_intros
  refine Ok.nin_st (ks := ["copy", "nought"]) (DEEPS_ok _ hd) (by decide +kernel) ?_
  and_intros
  and_intros
  refine are_keeps_ ks hk ?_
  and_intros
  refine Ok.setA (c := "Box") (fs := []) (by rw [List.getElem?_append_right (Nat.le_refl _)]; simp) c_B (by decide) ?_
  and_intros
  refine ⟨rfl, S.length, rfl, ?_, Ext.set Ext.app (Nat.le_refl _)⟩
  rw [List.getElem?_set_self (by simp)]
  rfl
theorem cnt_times : ∀ ks : List Ky, (ks.map Ky.s).count ("*" : Str) = ks.count .times
  | [] => rfl
  | k :: r => by
    rw [List.map_cons, List.count_cons, List.count_cons, cnt_times r]
    by_cases h : k = .times
    · subst h
      rfl
    · have h2 : ¬ k.s = "*" := fun e => h (Ky.inj (j := .times) e)
      simp [h, h2]
theorem Ok.row {most : Nat} {i : Int} (hi : i = most) (dk : Dk n m q S) (hb : 1 + 2 * most ≤ q) (hm : most ≤ 60) (h : ∀ (ks : List Ky) S', ks.length ≤ most → ks.count .times ≤ 3 → Dk n m (q - (1 + 2 * most)) S' → Keep n m S S' → QD (rowD ks) S') : Ok (F_x_row [.ob n, .int i] S) QD := by
  with_reducible refine Ok.def_ ?_
  simp only [frame0, List.map_cons, List.map_nil, List.length_cons, List.length_nil, Nat.reduceAdd, Nat.reduceSub, Nat.zero_add, List.reduceReplicate, List.cons_append, List.nil_append]
  unfold B_x_row
  and_intros
  refine Ok.draw (dk.new) (by omega) (by omega) (by omega) ?_
  intro r S1 r0 r1 dk1 k1
  and_intros
  have dl := dk.lt
  have e1 : S1[S.length]? = some (some (.lst [])) := k1.get (by rw [List.getElem?_append_right (Nat.le_refl _)]; simp) (by omega) (by omega)
  refine OkS.loop (I := fun j fr S' => ∃ (ks : List Ky) (v3 v4 : Option D), ks.length = j ∧ ks.count .times ≤ 3 ∧ fr = [some (.ob n), some (.int i), some (.ob S.length), v3, v4] ∧ S'[S.length]? = some (some (.lst ((ks.map Ky.s).map .str))) ∧ Dk n m (q - 1 - 2 * j) S' ∧ Keep n m S S') ⟨[], _, _, rfl, Nat.zero_le _, rfl, e1, dk1, (Keep.refl.new).trans k1⟩ ?_ ?_
  · rintro j x fr S2 hx ⟨ks, v3, v4, hl, hc, rfl, e2, dk2, k2⟩
    have hj := (rngL_get hx).2
    have hj2 : j < most := by omega
    unfold L_x_row_1
    and_intros
    refine Ok.key dk2 (by omega) ?_
    intro k S3 dk3 k3
    have e3 : S3[S.length]? = some (some (.lst ((ks.map Ky.s).map .str))) := k3.get e2 (by omega) (by omega)
    have fin : ∀ k' : Ky, (ks ++ [k']).count .times ≤ 3 → Ok (appD (.ob S.length) [.str k'.s] S3) fun _ S4 => ∃ (ks : List Ky) (v3 v4 : Option D), ks.length = j + 1 ∧ ks.count .times ≤ 3 ∧ [some (.ob n), some (.int i), some (.ob S.length), some x, some (.str k.s)] = [some (.ob n), some (.int i), some (.ob S.length), v3, v4] ∧ S4[S.length]? = some (some (.lst ((ks.map Ky.s).map .str))) ∧ Dk n m (q - 1 - 2 * (j + 1)) S4 ∧ Keep n m S S4 := by
      intro k' hc'
      refine Ok.app_o e3 (by simp; omega) ?_
      refine ⟨ks ++ [k'], _, _, by simp [hl], hc', rfl, ?_, ?_, ?_⟩
      · rw [List.getElem?_set_self (List.getElem?_eq_some_iff.mp e3).1]
        simp
      · exact (dk3.keep (List.getElem?_set_ne (by omega)) (List.getElem?_set_ne (by omega))).mono (by omega)
      · exact (k2.trans k3).set (.inl (Nat.le_refl _))
    and_intros
    refine Ok.met ?_
    and_intros
    refine ⟨tyR_lst e3, ?_⟩
    and_intros
    refine Br.spd (fun c => ?_) (fun c => ?_)
    · have hk : k = .times := Ky.inj (j := .times) c
      and_intros
      refine Ok.met ?_
      and_intros
      refine ⟨tyR_lst e3, ?_⟩
      and_intros
      refine Ok.cnt e3 (by decide +kernel) (Ky.lits_ok ks) ?_
      and_intros
      refine Br.spd (fun c2 => ?_) (fun c2 => ?_)
      · and_intros
        exact fin .plus (by simpa using hc)
      · and_intros
        rw [cnt_times] at c2
        refine fin k ?_
        rw [hk, List.count_append]
        simp
        omega
    · and_intros
      refine fin k ?_
      rw [List.count_append]
      have hk : k ≠ .times := fun e => c (by rw [e]; rfl)
      simp [List.count_cons, hk]
      omega
  · rintro fr S2 ⟨ks, v3, v4, hl, hc, rfl, e2, dk2, k2⟩
    rw [rngL_len] at hl dk2
    and_intros
    refine Ok.tup_o e2 ?_
    and_intros
    exact h ks S2 (by omega) hc (dk2.mono (by omega)) k2
end
end DL.Lb
namespace DL.Lb
open PySem PySem.Spec PyProof.Rows L2 DL
/-! ### states as data -/
theorem way_press {deep : Str} {ks : List Str} {ls : List Int} {k : Ky} {s : St} : (pressN deep ks ls k s).way ∈ WAYS := by
  cases k <;> (show _ ∈ WAYS; simp only [pressN, pressS]; decide +kernel)
theorem way_run {deep : Str} {ks : List Str} {ls : List Int} : ∀ (r : List Ky) {s : St}, s.way ∈ WAYS → (runN deep ks ls r s).way ∈ WAYS
  | [], s, h => h
  | k :: r, s, h => way_run r way_press
theorem WAYS_ok : ∀ w ∈ WAYS, w.length ≤ 4 ∧ PyData.strOk w = true := by decide +kernel
theorem ints_rz {l : List Int} {B : Nat} (h : ∀ x ∈ l, Int.natAbs x < 10 ^ B) (hB : B ≤ 480) (h0 : 0 < B) : Rz 1 (l.length * 483 + 3) (.tup (l.map .int)) := by
  have := Rz.tup (dep := 0) (len := 481) (l := l.map .int) (fun d hd => by
    obtain ⟨x, hx, rfl⟩ := List.mem_map.mp hd
    exact (Rz.int10 B h0 (h x hx) hB).mono (Nat.le_refl _) (by omega))
  rw [List.length_map] at this
  exact this
theorem st_rz {s : St} {B : Nat} (h : bnds B s) (hB : B ≤ 480) (h0 : 0 < B) (h6 : s.lv.length ≤ 6) (hw : s.way ∈ WAYS) : Rz 2 20000 (stD s) := by
  have h1 := (ints_rz h.1 hB h0).mono (Nat.le_refl 1) (show _ ≤ 4000 by omega)
  have h2 := (Rz.int10 B h0 h.2.1 hB).mono (Nat.zero_le 1) (show _ ≤ 4000 by omega)
  have h3 := (Rz.int10 B h0 h.2.2 hB).mono (Nat.zero_le 1) (show _ ≤ 4000 by omega)
  have h4 := (Rz.str 4 (WAYS_ok _ hw).1 (WAYS_ok _ hw).2).mono (Nat.zero_le 1) (show _ ≤ 4000 by omega)
  refine (Rz.tup (dep := 1) (len := 4000) (l := [.tup (s.lv.map .int), .int s.kp, .int s.mem, .str s.way]) ?_).mono (Nat.le_refl _) (by simp)
  intro d hd
  simp only [List.mem_cons, List.not_mem_nil, or_false] at hd
  rcases hd with rfl | rfl | rfl | rfl
  · exact h1
  · exact h2
  · exact h3
  · exact h4
theorem row_rz (ks : List Ky) (h : ks.length ≤ 40) : Rz 1 20000 (rowD ks) := by
  refine (Rz.tup (dep := 0) (len := 52) ?_).mono (Nat.le_refl _) (by simp; omega)
  intro d hd
  simp only [List.map_map, List.mem_map, Function.comp_apply] at hd
  obtain ⟨k, _, rfl⟩ := hd
  exact Rz.str 5 k.len k.ok
theorem three_rz {s : St} {l : List Int} {ks : List Ky} (h : bnds 40 s) (h6 : s.lv.length ≤ 6) (hw : s.way ∈ WAYS) (hl : l.length ≤ 6) (hlb : ∀ x ∈ l, Int.natAbs x < 10 ^ 40) (hk : ks.length ≤ 40) : Rz 3 100000 (.lst [stD s, .tup (l.map .int), rowD ks]) := by
  refine (Rz.lst (dep := 2) (len := 20000) ?_).mono (Nat.le_refl _) (by simp)
  intro d hd
  simp only [List.mem_cons, List.not_mem_nil, or_false] at hd
  rcases hd with rfl | rfl | rfl
  · exact st_rz h (by decide) (by decide) h6 hw
  · exact (ints_rz hlb (by decide) (by decide)).mono (by decide) (by omega)
  · exact (row_rz ks hk).mono (by decide) (Nat.le_refl _)
/-! ### what is shown, key by key -/
theorem shownN_len {deep : Str} {ks : List Str} {ls : List Int} : ∀ (r : List Ky) (s : St), (shownN deep ks ls r s).length = r.length
  | [], s => rfl
  | k :: r, s => by simp only [shownN, List.length_cons, shownN_len r]
theorem shownN_at {deep : Str} {ks : List Str} {ls : List Int} : ∀ (r : List Ky) (s : St) (i : Nat), i < r.length → (shownN deep ks ls r s)[i]? = some ((runN deep ks ls (r.take (i + 1)) s).lv.getD 0 0)
  | [], s, i, h => absurd h (Nat.not_lt_zero _)
  | k :: r, s, 0, h => by simp [shownN, runN]
  | k :: r, s, i + 1, h => by
    simp only [List.length_cons] at h
    simp only [shownN, List.getElem?_cons_succ, List.take_succ_cons, runN]
    exact shownN_at r _ i (by omega)
theorem shownN_bnd {deep : Str} {ks : List Str} {ls : List Int} {B : Nat} : ∀ (r : List Ky) (s : St) (C : Nat), 2 ≤ C → (∀ x ∈ ls, Int.natAbs x < 10 ^ C) → bnds C s → rB r C ≤ B → ∀ x ∈ shownN deep ks ls r s, Int.natAbs x < 10 ^ B
  | [], s, C, _, _, _, _, x, hx => by cases hx
  | k :: r, s, C, hC, hl, h, hB, x, hx => by
    have h1 := pressN_bnd (deep := deep) (ks := ks) hC hl h k
    have h2 := kB_le k C (by omega)
    have h3 := rB_ge r (kB k C) (by omega)
    have h4 : rB r (kB k C) ≤ B := hB
    rcases List.mem_cons.mp hx with rfl | hx
    · exact pow_up (getD_bnd h1.1) (by omega)
    · exact shownN_bnd r _ (kB k C) (by omega) (fun x hx => pow_up (hl x hx) h2) h1 hB x hx
theorem rB_take : ∀ (r : List Ky) (i B : Nat), 1 ≤ B → rB (r.take i) B ≤ rB r B
  | [], i, B, h => by simp
  | k :: r, 0, B, h => rB_ge (k :: r) B h
  | k :: r, i + 1, B, h => rB_take r i (kB k B) (Nat.le_trans h (kB_le k B h))
theorem Ok.calK {S : Store} {fr : Frame} {QD : D → Store → Prop} {F : List D → M D} {fs gs : List (Frame → M D)} (h : Ok (seqA fs fr S) fun xs S1 => Ok (seqA gs fr S1) fun ys S2 => Ok (F (xs ++ ys)  S2) QD) : Ok (DL.calK F fs gs fr S) QD := by
  unfold DL.calK
  exact Ok.bnd (h.imp fun xs S1 q => Ok.bnd (Ok.imp q fun ys S2 q => Ok.nox q))
theorem row_take (ks : List Ky) (k : Nat) {i : Int} {S : Store} {QD : D → Store → Prop} (e : i = k) (h : QD (rowD (ks.take k)) S) : Ok (sliD (rowD ks) none (some i) S) QD := by
  refine Ok.sl_tk e ?_
  rw [← List.map_take]
  exact h
theorem Ok.len_row {ks : List Ky} {S : Store} {QD : D → Store → Prop} (h : ∀ z : Int, z = (ks.length : Nat) → QD (.int z) S) : Ok (lenD [rowD ks] S) QD := by
  unfold rowD
  refine Ok.of (v := .int (((ks.map Ky.s).map D.str).length : Nat)) (S1 := S) rfl (h _ (by simp))
theorem rB_small (ks : List Ky) (h : ks.length ≤ 12) (hc : ks.count .times ≤ 3) : rB ks 40 ≤ 420 := by
  refine Nat.le_trans (rB_le ks 40) ?_
  have h1 : 2 ^ ks.count .times ≤ 2 ^ 3 := Nat.pow_le_pow_right (by decide) hc
  exact Nat.le_trans (Nat.mul_le_mul (show 40 + ks.length ≤ 52 by omega) h1) (by decide)
end DL.Lb
namespace DL
open PySem PySem.Spec PyProof.Rows L2
/-! ### data that is shown, empty dicts too -/
structure Sh (dep len : Nat) (d : D) : Prop where
  ex : ∃ p, py d = some p ∧ p.showable = true ∧ p.depth ≤ dep ∧ p.shown.length ≤ len
theorem Rz.sh {a b : Nat} {d : D} (h : Rz a b d) : Sh a b d := by
  obtain ⟨p, e, x, y, z, w⟩ := h.ex
  exact ⟨p, e, x, z, w⟩
theorem Sh.mono {a b a' b' : Nat} {d : D} (h : Sh a b d) (h1 : a ≤ a') (h2 : b ≤ b') : Sh a' b' d := by
  obtain ⟨p, e, x, z, w⟩ := h.ex
  exact ⟨p, e, x, Nat.le_trans z h1, Nat.le_trans w h2⟩
theorem Sh.emp : Sh 1 2 .emp := ⟨.dict [], rfl, rfl, by decide +kernel, by decide +kernel⟩
theorem pysE_of {dep len : Nat} : ∀ {l : List D}, (∀ d ∈ l, Sh dep len d) → ∃ ps, pys l = some ps ∧ PyData.showableAll ps = true ∧ PyData.depthAll ps ≤ dep ∧ ps.length = l.length ∧ ∀ t ∈ PyData.shownAll ps, t.length ≤ len
  | [], _ => ⟨[], rfl, rfl, Nat.zero_le _, rfl, fun _ h => nomatch h⟩
  | d :: r, h => by
    obtain ⟨p, e, a1, a3, a4⟩ := (h d List.mem_cons_self).ex
    obtain ⟨ps, e2, b1, b3, b4, b5⟩ := pysE_of (l := r) fun x hx => h x (List.mem_cons_of_mem _ hx)
    refine ⟨p :: ps, by simp only [pys, e, e2], by simp only [PyData.showableAll, a1, b1, Bool.and_self], ?_, by simp [b4], fun t ht => ?_⟩
    · simp only [PyData.depthAll]
      omega
    · simp only [PyData.shownAll] at ht
      rcases List.mem_cons.mp ht with rfl | ht
      · exact a4
      · exact b5 t ht
theorem Sh.tup {dep len : Nat} {l : List D} (h : ∀ d ∈ l, Sh dep len d) : Sh (dep + 1) (l.length * (len + 2) + 3) (.tup l) := by
  obtain ⟨ps, e, h1, h3, h4, h5⟩ := pysE_of h
  refine ⟨.tuple ps, by simp only [py, e, Option.map], by simpa [PyData.showable] using h1, by simp only [PyData.depth]; omega, ?_⟩
  have q : PyData.shown (.tuple ps) = tupleText (PyData.shownAll ps) := by simp [PyData.shown]
  rw [q]
  have t := tupleText_len_le (PyData.shownAll ps)
  have s := sumlen_le _ h5
  rw [shownAll_len, h4] at t s
  rw [Nat.mul_add]
  omega
theorem Sh.lst {dep len : Nat} {l : List D} (h : ∀ d ∈ l, Sh dep len d) : Sh (dep + 1) (l.length * (len + 2) + 3) (.lst l) := by
  obtain ⟨ps, e, h1, h3, h4, h5⟩ := pysE_of h
  refine ⟨.list ps, by simp only [py, e, Option.map], by simpa [PyData.showable] using h1, by simp only [PyData.depth]; omega, ?_⟩
  have q : PyData.shown (.list ps) = listText (PyData.shownAll ps) := by simp [PyData.shown]
  rw [q]
  have t := listText_len_le (PyData.shownAll ps)
  have s := sumlen_le _ h5
  rw [shownAll_len, h4] at t s
  rw [Nat.mul_add]
  omega
section
variable {S : Store} {QD : D → Store → Prop} {a b n : Nat} {d x y : D} {l : List D}
theorem reprE_ok {p : PyData} (h : pyS S d = some p) (ok : p.showable = true ∧ p.depth ≤ 60 ∧ p.shown.length ≤ sizeLine) : reprE [d] S = .ok (.str p.shown) S := by
  unfold reprE
  simp only [h, if_pos ok]
theorem Ok.reprE (h : Sh a b d) (hd : a ≤ 60) (hl : b ≤ 16777216) (k : QD (.str (rep d)) S) : Ok (DL.reprE [d] S) QD := by
  obtain ⟨p, e, a1, a3, a4⟩ := h.ex
  have : rep d = p.shown := by unfold rep; rw [e]
  rw [this] at k
  exact Ok.of (reprE_ok (pyS_of e) ⟨a1, by omega, by rw [sizeLine_eq]; omega⟩) k
theorem Ok.reprO (e0 : S[n]? = some (some (.lst l))) (h : Sh a b (.lst l)) (hd : a ≤ 60) (hl : b ≤ 16777216) (k : QD (.str (rep (.lst l))) S) : Ok (DL.reprE [.ob n] S) QD := by
  obtain ⟨p, e, a1, a3, a4⟩ := h.ex
  have : rep (.lst l) = p.shown := by unfold rep; rw [e]
  rw [this] at k
  refine Ok.of (reprE_ok (p := p) ?_ ⟨a1, by omega, by rw [sizeLine_eq]; omega⟩) k
  rw [pyS_ob, e0]
  unfold py at e
  cases q : pys l with
  | none => rw [q] at e; cases e
  | some ps => rw [q] at e; simpa [oLst, q] using e
theorem Ok.mul2_s {s : Str} {k : Int} (h1 : 2 ≤ k ∧ k ≤ 1000 ∧ 1 ≤ s.length ∧ s.length ≤ 1000) (h : QD (.str (repS s k.toNat)) S) : Ok (mul2D (.str s) (.int k) S) QD := Ok.of (v := .str (repS s k.toNat)) (S1 := S) (by unfold mul2D; simp only [if_pos h1]) h
theorem Ok.mul2_t {k : Int} (h1 : l ≠ [] ∧ 2 ≤ k ∧ k ≤ 1000 ∧ l.length ≤ 1000) (h : QD (.tup (List.replicate k.toNat l).flatten) S) : Ok (mul2D (.tup l) (.int k) S) QD := Ok.of (v := .tup (List.replicate k.toNat l).flatten) (S1 := S) (by unfold mul2D; simp only [if_pos h1]) h
theorem Ok.empF {fr : Frame} (h : QD .emp S) : Ok (DL.empF fr S) QD := h
end
end DL
namespace DL
open PySem PySem.Spec PyProof.Rows L2
/-! ### tables of factors as dicts -/
namespace Pl
def kk (k : Pw) : List Key := k.map Sum.inl
def tbl (l : Pol) : List (List Key × D) := l.map fun x => (kk x.1, .int x.2)
theorem kk_inj' : ∀ {a b : Pw}, kk a = kk b → a = b
  | [], [], _ => rfl
  | [], _ :: _, h => by cases h
  | _ :: _, [], h => by cases h
  | x :: a, y :: b, h => by
    simp only [kk, List.map_cons, List.cons.injEq, Sum.inl.injEq] at h
    rw [h.1, kk_inj' (a := a) (b := b) h.2]
theorem kk_inj {a b : Pw} : kk a = kk b ↔ a = b := ⟨kk_inj', fun h => by rw [h]⟩
theorem keysL_ints : ∀ k : Pw, keysL (k.map .int) = some (kk k)
  | [] => rfl
  | i :: k => by
    show (match keyD (.int i), keysL (k.map .int) with
      | some k, some ks => some (k :: ks)
      | _, _ => none) = _
    rw [keysL_ints k]
    rfl
theorem valD_tbl (k : Pw) : ∀ l : Pol, valD (tbl l) (kk k) = (get l k).map D.int
  | [] => rfl
  | (j, c) :: l => by
    have ih := valD_tbl k l
    unfold valD get tbl at *
    by_cases e : j = k
    · subst e; simp
    · have e2 : ¬ kk j = kk k := fun z => e (kk_inj.mp z)
      simp only [List.map_cons, List.find?_cons, decide_eq_false e, decide_eq_false e2]
      exact ih
theorem any_tbl (k : Pw) : ∀ l : Pol, ((tbl l).any fun kv => decide (kv.1 = kk k)) = l.any fun x => decide (x.1 = k)
  | [] => rfl
  | (j, c) :: l => by
    have ih := any_tbl k l
    unfold tbl at *
    simp only [List.map_cons, List.any_cons, ih]
    congr 1
    exact decide_eq_decide.mpr kk_inj
theorem put_tbl (k : Pw) (v : Int) (l : Pol) : putKD (tbl l) (kk k) (.int v) = tbl (put l k v) := by
  unfold putKD put
  rw [any_tbl]
  split
  · unfold tbl
    rw [List.map_map, List.map_map]
    apply List.map_congr_left
    intro x _
    simp only [Function.comp]
    by_cases e : x.1 = k
    · rw [if_pos (kk_inj.mpr e), if_pos e]
    · rw [if_neg (fun z => e (kk_inj.mp z)), if_neg e]
  · simp [tbl]
theorem pairsT_pr : ∀ p : Pol, pairsT (p.map prD) = some (tbl p)
  | [] => rfl
  | x :: p => by
    have e : pairT (prD x) = some (kk x.1, .int x.2) := by
      show (keysL (x.1.map .int)).map _ = _
      rw [keysL_ints]
      rfl
    show (match pairT (prD x), pairsT (p.map prD) with
      | some p, some ps => some (p :: ps)
      | _, _ => none) = _
    rw [e, pairsT_pr p]
    rfl
theorem items_tbl (l : Pol) : itemsT (tbl l) = l.map prD := by
  unfold itemsT tbl
  rw [List.map_map]
  apply List.map_congr_left
  intro x _
  simp only [Function.comp, prD, intsD, kk, List.map_map]
  rfl
theorem nd_tbl {l : Pol} : ((tbl l).map (·.1)).Nodup ↔ Nd l := by
  have e : (tbl l).map (·.1) = (l.map (·.1)).map kk := by unfold tbl; rw [List.map_map, List.map_map]; rfl
  rw [e]
  unfold Nd List.Nodup
  rw [List.pairwise_map]
  constructor
  · exact fun h => h.imp fun {a b} h z => h (by rw [z])
  · exact fun h => h.imp fun {a b} h z => h (kk_inj.mp z)
theorem depth_ints : ∀ l : List Int, PyData.depthAll (l.map .int) = 0 := fun l => PySem.W.depth_ints l
theorem depth_pr : ∀ p : Pol, PyData.depthAll (p.map fun x => pyd (prD x)) ≤ 2
  | [] => by simp [PyData.depthAll]
  | x :: p => by
    rw [List.map_cons, PyData.depthAll, pyd_prD]
    have := depth_pr p
    simp only [PyData.depth, PyData.depthAll, depth_ints]
    omega
theorem pys_pr : ∀ p : Pol, pys (p.map prD) = some (p.map fun x => pyd (prD x))
  | [] => rfl
  | x :: p => by
    rw [List.map_cons, pys, py_prD, pys_pr p, List.map_cons, pyd_prD]
theorem sortOk_pr {p : Pol} (h : p.length ≤ 1000000) : sortOk (p.map fun x => pyd (prD x)) := by
  refine ⟨?_, .inl ?_, Nat.le_trans (depth_pr p) (by decide), by rw [List.length_map]; exact h⟩
  · rw [List.all_eq_true]
    intro a ha
    rw [List.all_eq_true]
    intro b hb
    obtain ⟨x, _, rfl⟩ := List.mem_map.mp ha
    obtain ⟨y, _, rfl⟩ := List.mem_map.mp hb
    exact alike_pr x y
  · rw [List.all_eq_true]
    intro a ha
    obtain ⟨x, _, rfl⟩ := List.mem_map.mp ha
    rw [pyd_prD]
    rfl
end Pl
section
variable {α β : Type} {S S1 : Store} {fr : Frame} {QD : D → Store → Prop} {QL : List D → Store → Prop} {QU : Unit → Store → Prop} {i j : Int} {n m : Nat} {d x y : D} {l : List D} {p q : Pol} {k : Pw}
theorem Ok.dictP (h1 : Pl.Nd p) (h2 : p.length ≤ 100000) (h : QD (.ob S.length) (S ++ [some (.dt (Pl.tbl p))])) : Ok (dictD [Pl.d p] S) QD := by
  refine Ok.of (v := .ob S.length) (S1 := S ++ [some (.dt (Pl.tbl p))]) ?_ h
  unfold dictD Pl.d
  simp only [Pl.pairsT_pr]
  rw [if_pos ⟨Pl.nd_tbl.mpr h1, by rw [Pl.tbl, List.length_map]; omega⟩]
  rfl
theorem Ok.getF {fo fk fx : Frame → M D} (h : Ok (fo fr S) fun o S1 => dkQ S1 o = true ∧ Ok (fk fr S1) fun y S2 => Ok (fx fr S2) fun x S3 => Ok (getV o y x S3) QD) : Ok (DL.getF fo fk fx fr S) QD := by
  unfold DL.getF
  refine Ok.bnd (h.imp fun o S1 q => ?_)
  rw [bnd_ok (show dkCk o S1 = .ok () S1 from if_pos q.1)]
  exact Ok.bnd (q.2.imp fun y S2 q => Ok.bnd (q.imp fun x S3 q => q))
theorem dkQ_t {t : List (List Key × D)} (e : S[n]? = some (some (.dt t))) : dkQ S (.ob n) = true := by unfold dkQ; simp only [e]
theorem Ok.getT (e : S[n]? = some (some (.dt (Pl.tbl p)))) (h : QD (.int ((Pl.get p k).getD i)) S) : Ok (getV (.ob n) (Pl.intsD k) (.int i) S) QD := by
  refine Ok.of (v := .int ((Pl.get p k).getD i)) (S1 := S) ?_ h
  unfold getV Pl.intsD
  simp only [e, Pl.keysL_ints, Pl.valD_tbl]
  cases Pl.get p k <;> rfl
theorem Ok.setT {v : Int} (e : S[n]? = some (some (.dt (Pl.tbl p)))) (hl : p.length < 100000) (h : QU () (S.set n (some (.dt (Pl.tbl (Pl.put p k v)))))) : Ok (dstD (.ob n) (Pl.intsD k) (.int v) S) QU := by
  refine Ok.of (v := ()) (S1 := S.set n (some (.dt (Pl.tbl (Pl.put p k v))))) ?_ h
  unfold dstD Pl.intsD
  simp only [e, Pl.keysL_ints, Pl.put_tbl]
  exact if_pos (by rw [Pl.tbl, List.length_map]; exact hl)
theorem Ok.tupP {fs : List (Frame → M D)} (h : Ok (seqA fs fr S) fun l S1 => QD (.ptu l) S1) : Ok (DL.tupP fs fr S) QD := Ok.bnd (h.imp fun _ _ q => q)
theorem Ok.tupleP (h : QD (.ptu l) S) : Ok (DL.tupleP [.lst l] S) QD := h
theorem Ok.cmpI {vs : List Nat} {ix : Nat} {g : D → Frame → M Frame} {t : Frame → M Bool} {elt : Frame → M D} {o : O} (hf : fr[ix]? = some (some (.ob n))) (e : S[n]? = some (some o)) {xs : List D} (hx : itmO o = some xs) (hl : xs.length ≤ 1000000)
    (h : Ok (itL g t elt (wipeF fr vs) xs (S.set n none)) fun ys S' => QD (.lst ys) S') : Ok (DL.cmpI vs ix g t elt fr S) QD := by
  unfold DL.cmpI
  rw [hf]
  have e2 : oItm S[n]? = some xs := by rw [e]; exact hx
  simp only [e2]
  obtain ⟨ys, S', e3, q⟩ := h.ex
  refine Ok.bnd (Ok.of (cmpF_ok (S1 := S.set n none) (src := fun _ => some xs) rfl (fun _ => rfl) (by rw [sizeLine_eq]; omega) e3) ?_)
  exact q
theorem Ok.srt (hl : p.length ≤ 1000000) (h : QD (.lst ((p.mergeSort Pl.leP).map Pl.prD)) S) : Ok (sortedX [.lst (p.map Pl.prD)] S) QD := by
  refine Ok.of (v := .lst ((p.mergeSort Pl.leP).map Pl.prD)) (S1 := S) ?_ h
  unfold sortedX
  rw [show oneL S [.lst (p.map Pl.prD)] = some (p.map Pl.prD) from rfl]
  simp only [Pl.pys_pr]
  rw [if_pos (Pl.sortOk_pr hl), List.map_mergeSort (r := Pl.leP) (s := leX) (f := Pl.prD) (fun a _ b _ => rfl)]
theorem Ok.isi_ptu {T : String} {p : Bool} (e : kitB "tuple" T = some p) (h : QD (.bl p) S) : Ok (isiD T (.ptu l) S) QD := Ok.of (isi_known rfl e) h
theorem SrcQ.ptu {xs : List D} {P : List D → Prop} (h : P xs) : SrcQ (srcSeq (.ptu xs)) P := ⟨xs, fun _ => rfl, h⟩
theorem ItQ.ptu {Q : Src → Store → Prop} {l : List D} {S : Store} (h : Q (srcSeq (.ptu l)) S) : ItQ Q (.ptu l) S := ⟨⟨l, rfl⟩, h⟩
theorem Ok.len_p (h : QD (.int (l.length : Nat)) S) : Ok (lenD [.ptu l] S) QD := h
theorem Ok.tgQt {gs : List (D → Frame → M Frame)} {QF : Frame → Store → Prop} (e : l.length = gs.length) (h : Ok (tgAll gs l fr S) QF) : Ok (tgSeq gs (.tup l) fr S) QF := by
  have : tgSeq gs (.tup l) fr S = tgAll gs l fr S := if_pos e
  rw [this]
  exact h
theorem Ok.tgQl {gs : List (D → Frame → M Frame)} {QF : Frame → Store → Prop} (e : l.length = gs.length) (h : Ok (tgAll gs l fr S) QF) : Ok (tgSeq gs (.lst l) fr S) QF := by
  have : tgSeq gs (.lst l) fr S = tgAll gs l fr S := if_pos e
  rw [this]
  exact h
end
end DL
namespace DL.Lb
open PySem PySem.Spec PyProof.Rows L2 DL
/-! ### the program's functions of polynomials -/
noncomputable def B_constant : SM := retF (iteF (tbF (binF neD (varF 1) (cstF (.int 0)))) (tupP [tupF [binF mulT (tupF [cstF (.int 0)]) (varF 0), varF 1]]) (tupP []))
noncomputable abbrev F_constant : List D → M D := defF 2 B_constant
noncomputable def E_made_1 : DL.Frame → M D := tupF [varF 1, varF 2]
noncomputable def T_made_1 : DL.Frame → M Bool := tbF (binF neD (varF 2) (cstF (.int 0)))
noncomputable def B_made : SM := retF (calF tupleP [calF sortedX [cmpI [1, 2] 0 (tgTup [tgName 1, tgName 2]) (T_made_1) (E_made_1)]])
noncomputable abbrev F_made : List D → M D := defF 3 B_made
noncomputable def E_times_1 : DL.Frame → M D := binF addD (varF 8) (varF 9)
noncomputable def L_times_2 : SM := seqS (asgF 7 (calF tupleD [cmpD [8, 9] (rngF zipS [varF 3, varF 5]) (tgTup [tgName 8, tgName 9]) (yesF) (E_times_1)])) (asgG (tgDic (varF 2) (varF 7)) (binF addD (getF (varF 2) (varF 7) (cstF (.int 0))) (binF mulD (varF 4) (varF 6))))
noncomputable def L_times_1 : SM := forF (itF (varF 1)) (tgTup [tgName 5, tgName 6]) (L_times_2)
noncomputable def B_times : SM := seqS (asgF 2 (dctT)) (seqS (forF (itF (varF 0)) (tgTup [tgName 3, tgName 4]) (L_times_1)) (retF (calF (fun xs => F_made (xs ++ [])) [varF 2])))
noncomputable abbrev F_times : List D → M D := defF 10 B_times
noncomputable def E_unknown_1 : DL.Frame → M D := calF intD [binF eqD (varF 2) (varF 1)]
noncomputable def B_unknown : SM := retF (tupP [tupF [calF tupleD [cmpD [2] (rngF rng1 [varF 0]) (tgName 2) (yesF) (E_unknown_1)], cstF (.int 1)]])
noncomputable abbrev F_unknown : List D → M D := defF 3 B_unknown
noncomputable def L_plus_1 : SM := asgG (tgDic (varF 2) (varF 3)) (binF addD (getF (varF 2) (varF 3) (cstF (.int 0))) (varF 4))
noncomputable def B_plus : SM := seqS (asgF 2 (calF dictD [varF 0])) (seqS (forF (itF (varF 1)) (tgTup [tgName 3, tgName 4]) (L_plus_1)) (retF (calF (fun xs => F_made (xs ++ [])) [varF 2])))
noncomputable abbrev F_plus : List D → M D := defF 5 B_plus
noncomputable def E_minus_1 : DL.Frame → M D := tupF [varF 2, binF subD (cstF (.int 0)) (varF 3)]
noncomputable def B_minus : SM := retF (calF (fun xs => F_plus (xs ++ [])) [varF 0, calF tupleD [cmpD [2, 3] (itF (varF 1)) (tgTup [tgName 2, tgName 3]) (yesF) (E_minus_1)]])
noncomputable abbrev F_minus : List D → M D := defF 4 B_minus
noncomputable def B_x_is_whole : SM := retF (andV (unF (isiD "int") (varF 0)) (andV (notV (unF (isiD "bool") (varF 0))) (binF geD (varF 0) (varF 1))))
noncomputable abbrev F_x_is_whole : List D → M D := defF 2 B_x_is_whole
noncomputable def E_x_is_poly_1 : DL.Frame → M D := varF 5
noncomputable def T_x_is_poly_1 : DL.Frame → M Bool := notF (tstF (calF (fun xs => F_x_is_whole (xs ++ [])) [varF 5, cstF (.int 0)]))
noncomputable def L_x_is_poly_1 : SM := seqS (ifS (orF (notF (tstF (unF (isiD "tuple") (varF 2)))) (orF (tbF (binF neD (calF lenD [varF 2]) (cstF (.int 2)))) (orF (notF (tstF (unF (isiD "tuple") (binF ixD (varF 2) (cstF (.int 0)))))) (tbF (binF neD (calF lenD [binF ixD (varF 2) (cstF (.int 0))]) (varF 1)))))) (retF (cstF (.bl false))) (nxF)) (seqS (ifS (tbF (binF neD (cmpD [5] (itF (binF ixD (varF 2) (cstF (.int 0)))) (tgName 5) (T_x_is_poly_1) (E_x_is_poly_1)) (lstF []))) (retF (cstF (.bl false))) (nxF)) (ifS (orF (notF (tstF (unF (isiD "int") (binF ixD (varF 2) (cstF (.int 1)))))) (orF (tstF (unF (isiD "bool") (binF ixD (varF 2) (cstF (.int 1))))) (tbF (binF eqD (binF ixD (varF 2) (cstF (.int 1))) (cstF (.int 0)))))) (retF (cstF (.bl false))) (nxF)))
noncomputable def E_x_is_poly_2 : DL.Frame → M D := binF ixD (varF 2) (cstF (.int 0))
noncomputable def E_x_is_poly_3 : DL.Frame → M D := varF 4
noncomputable def T_x_is_poly_3 : DL.Frame → M Bool := notF (tbF (binF ltX (binF ixD (varF 3) (binF subD (varF 4) (cstF (.int 1)))) (binF ixD (varF 3) (varF 4))))
noncomputable def B_x_is_poly : SM := seqS (ifS (notF (tstF (unF (isiD "tuple") (varF 0)))) (retF (cstF (.bl false))) (nxF)) (seqS (forF (itF (varF 0)) (tgName 2) (L_x_is_poly_1)) (seqS (asgF 3 (cmpD [2] (itF (varF 0)) (tgName 2) (yesF) (E_x_is_poly_2))) (retF (binF eqD (cmpD [4] (rngF rng2 [cstF (.int 1), calF lenD [varF 3]]) (tgName 4) (T_x_is_poly_3) (E_x_is_poly_3)) (lstF [])))))
noncomputable abbrev F_x_is_poly : List D → M D := defF 6 B_x_is_poly
local macro_rules | `(tactic| and_intros) => `(tactic| repeat (first | ((with_reducible refine Ok.tgT ?_ ?_); (exact rfl)) | ((with_reducible refine Ok.tgQt ?_ ?_); (exact rfl)) | ((with_reducible refine Ok.tgQl ?_ ?_); (exact rfl)) | with_reducible refine Ok.tupP ?_ | with_reducible refine Ok.tupleP ?_ | ((with_reducible refine Ok.isi_ptu (p := true) ?_ ?_); decide +kernel) | ((with_reducible refine Ok.isi_ptu (p := false) ?_ ?_); decide +kernel) | with_reducible refine ItQ.ptu ?_ | with_reducible refine SrcQ.ptu ?_ | with_reducible refine Ok.len_p ?_ | with_reducible refine Ok.sli_tail ?_ | ((with_reducible refine Ok.var ?_); refine ⟨_, rfl, ?_⟩) | ((with_reducible refine Fr.go ?_); intro fr_ e_; simp only [List.set_cons_zero, List.set_cons_succ, setAll, wipeF] at e_; subst e_) | with_reducible refine Ok.bin ?_ | with_reducible refine Ok.calp ?_ | with_reducible refine Ok.cal ?_ | with_reducible refine Ok.cst ?_ | with_reducible refine Ok.acons ?_ | with_reducible refine Ok.anil ?_ | with_reducible refine Ok.un ?_ | with_reducible refine Ok.tb ?_ | with_reducible refine Ok.tsb ?_ | with_reducible refine OkS.seq ?_ | with_reducible refine OkS.asg ?_ | with_reducible refine Then.nx ?_ | with_reducible refine Then.rt ?_ | with_reducible refine OkS.ifS ?_ | with_reducible refine Ok.notF ?_ | with_reducible refine Ok.andF ?_ | with_reducible refine Ok.orF ?_ | with_reducible refine Ok.ite ?_ | with_reducible refine Br.t ?_ | with_reducible refine Br.f ?_ | with_reducible refine Br.not ?_ | ((with_reducible refine OkS.aug ?_); refine ⟨_, rfl, ?_⟩) | ((with_reducible refine Ok.ix_t ?_); refine ⟨_, rfl, ?_⟩) | ((with_reducible refine Ok.ix_l ?_); refine ⟨_, rfl, ?_⟩) | ((with_reducible refine Ok.tgT ?_ ?_); exact rfl) | with_reducible refine Ok.tup ?_ | with_reducible refine Ok.lst ?_ | with_reducible refine Ok.lstO ?_ | with_reducible refine Ok.tst ?_ | with_reducible refine Ok.tru_bl ?_ | with_reducible refine Ok.tru_non ?_ | with_reducible refine Ok.tru_tup ?_ | with_reducible refine Ok.tru_lst ?_ | with_reducible refine Ok.tru_int ?_ | with_reducible refine Ok.boolF ?_ | with_reducible refine Ok.andV ?_ | with_reducible refine Ok.orV ?_ | with_reducible refine Ok.notV ?_ | with_reducible refine Ok.yes ?_ | with_reducible refine Ok.prtN ?_ | with_reducible refine Ok.prtS ?_ | with_reducible refine Ok.sli ?_ | with_reducible refine Ok.chF ?_ | with_reducible refine Ok.exi ?_ | with_reducible refine Ok.exb ?_ | with_reducible refine Ok.add_ii ?_ | with_reducible refine Ok.sub_ii ?_ | with_reducible refine Ok.neg_i ?_ | with_reducible refine Ok.lt_ii ?_ | with_reducible refine Ok.le_ii ?_ | with_reducible refine Ok.gt_ii ?_ | with_reducible refine Ok.ge_ii ?_ | with_reducible refine Ok.eq_ii ?_ | with_reducible refine Ok.ne_ii ?_ | with_reducible refine Ok.eq_ss ?_ | with_reducible refine Ok.ne_ss ?_ | with_reducible refine Ok.in_ss ?_ | with_reducible refine Ok.nin_ss ?_ | with_reducible refine Ok.is_nn ?_ | with_reducible refine Ok.int_i ?_ | with_reducible refine Ok.int_b ?_ | with_reducible refine Ok.str_s ?_ | with_reducible refine Ok.max_ii ?_ | with_reducible refine Ok.min_ii ?_ | with_reducible refine Ok.len_t ?_ | with_reducible refine Ok.len_l ?_ | with_reducible refine Ok.tup_t ?_ | with_reducible refine Ok.tup_l ?_ | with_reducible refine Ok.lst_t ?_ | with_reducible refine Ok.lst_l ?_ | with_reducible refine Ok.sli_t ?_ | with_reducible refine Ok.sli_l ?_ | with_reducible refine OkS.ret ?_ | with_reducible refine OkS.retN ?_ | with_reducible refine OkS.expr ?_ | with_reducible refine OkS.nx ?_ | with_reducible refine OkS.bk ?_ | with_reducible refine OkS.ct ?_ | with_reducible refine Then.bk ?_ | with_reducible refine Then.ct ?_ | with_reducible refine Rt.rt ?_ | with_reducible refine Rt.nx ?_ | with_reducible refine Lp.nx ?_ | with_reducible refine Lp.ct ?_ | with_reducible refine Lp.bk ?_ | with_reducible refine Lp.rt ?_ | with_reducible refine OkS.asgG ?_ | with_reducible refine OkS.par ?_ | with_reducible refine Ok.iadd_ii ?_ | with_reducible refine Ok.isub_ii ?_ | with_reducible refine Ok.tgN ?_ | with_reducible refine Ok.tgA0 ?_ | with_reducible refine Ok.tgA ?_ | with_reducible refine Ok.tgSub ?_ | with_reducible refine Ok.rngF ?_ | with_reducible refine Ok.cmpD ?_ | with_reducible refine Ok.cmpO ?_ | with_reducible refine Ok.ret ?_ | with_reducible refine Ok.ok ?_ | with_reducible refine Ok.newO ?_ | with_reducible refine Ok.bnd ?_ | with_reducible refine OkS.fore ?_ | with_reducible refine Ok.cmpe ?_ | with_reducible refine Ok.itT ?_ | with_reducible refine ItQ.tup ?_ | with_reducible refine ItQ.lst ?_ | with_reducible refine ItQ.ctu ?_ | with_reducible refine SrcQ.con ?_ | with_reducible refine SrcQ.tup ?_ | with_reducible refine SrcQ.lst ?_ | with_reducible refine SrcQ.ctu ?_ | ((with_reducible refine Ok.mod_ii ?_ ?_); (first | decide | (simp; done) | (simp; omega))) | ((with_reducible refine Ok.add_tt ?_ ?_); (first | decide | (simp; done) | (simp; omega))) | ((with_reducible refine Ok.add_ll ?_ ?_); (first | decide | (simp; done) | (simp; omega))) | ((with_reducible refine Ok.add_ss ?_ ?_); (first | decide | (simp; done) | (simp; omega))) | ((with_reducible refine Ok.rng1 ?_ ?_); (first | decide | omega | (simp; omega))) | ((with_reducible refine Br.dt ?_ ?_); (first | assumption | exact rfl | omega | decide +kernel)) | ((with_reducible refine Br.df ?_ ?_); (first | assumption | omega | decide +kernel)) | ((with_reducible refine Br.tt ?_ ?_); (first | assumption | decide +kernel)) | ((with_reducible refine Br.ff ?_ ?_); (first | assumption | decide +kernel)) | with_reducible refine Ok.is_in ?_ | with_reducible refine Ok.is_tn ?_ | with_reducible refine Ok.is_bn ?_ | with_reducible refine Ok.is_sn ?_ | with_reducible refine Ok.nis_in ?_ | with_reducible refine Ok.nis_tn ?_ | with_reducible refine Ok.nis_bn ?_ | with_reducible refine Ok.nis_sn ?_ | with_reducible refine OkS.lcons ?_ | with_reducible refine OkS.lnil ?_ | with_reducible refine Ok.icons ?_ | with_reducible refine Ok.inil ?_ | with_reducible refine Ok.is_bb ?_ | with_reducible refine Ok.nis_bb ?_ | with_reducible refine Ok.nis_nn ?_ | with_reducible refine Ok.pcons ?_ | with_reducible refine Ok.pnil ?_ | with_reducible refine Ok.dctK ?_ | with_reducible refine Ok.tgDic ?_ | with_reducible refine Ok.fld ?_ | with_reducible refine Ok.tgAtt ?_ | with_reducible refine Ok.makO ?_ | ((with_reducible refine Ok.isi_tup (p := true) ?_ ?_); decide +kernel) | ((with_reducible refine Ok.isi_tup (p := false) ?_ ?_); decide +kernel) | ((with_reducible refine Ok.isi_int (p := true) ?_ ?_); decide +kernel) | ((with_reducible refine Ok.isi_int (p := false) ?_ ?_); decide +kernel) | ((with_reducible refine Ok.isi_str (p := true) ?_ ?_); decide +kernel) | ((with_reducible refine Ok.isi_str (p := false) ?_ ?_); decide +kernel) | ((with_reducible refine Ok.isi_lst (p := true) ?_ ?_); decide +kernel) | ((with_reducible refine Ok.isi_lst (p := false) ?_ ?_); decide +kernel) | ((with_reducible refine Ok.isi_bl (p := true) ?_ ?_); decide +kernel) | ((with_reducible refine Ok.isi_bl (p := false) ?_ ?_); decide +kernel) | ((with_reducible refine Ok.isi_non (p := true) ?_ ?_); decide +kernel) | ((with_reducible refine Ok.isi_non (p := false) ?_ ?_); decide +kernel) | ((with_reducible refine Ok.isi_ctu (p := true) ?_ ?_); decide +kernel) | ((with_reducible refine Ok.isi_ctu (p := false) ?_ ?_); decide +kernel) | ((with_reducible refine Ok.isi_emp (p := true) ?_ ?_); decide +kernel) | ((with_reducible refine Ok.isi_emp (p := false) ?_ ?_); decide +kernel) | (with_reducible refine Ok.disp ?_)))
section
variable {S : Store} {QD : D → Store → Prop} {QS : Fl → DL.Frame → Store → Prop} {QL : List D → Store → Prop} {n m : Nat} {p q : Pol}
theorem Ok.dctT {fr : DL.Frame} (h : QD (.ob S.length) (S ++ [some (.dt [])])) : Ok (DL.dctT fr S) QD := h
theorem neD_int {i j : Int} (h : QD (.bl (!decide (i = j))) S) : Ok (neD (.int i) (.int j) S) QD := Ok.ne_ii h
theorem made_loop {fr : DL.Frame} (hf : ∃ v0 v1 v2, fr = [v0, v1, v2]) : ∀ l : Pol, Ok (itL (tgTup [tgName 1, tgName 2]) T_made_1 E_made_1 fr (l.map Pl.prD) S) fun ys S' => ys = (Pl.nzf l).map Pl.prD ∧ S' = S
  | [] => ⟨rfl, rfl⟩
  | x :: l => by
    obtain ⟨v0, v1, v2, rfl⟩ := hf
    obtain ⟨k, c⟩ := x
    rw [List.map_cons]
    refine Ok.icons ?_
    unfold Pl.prD T_made_1 E_made_1
    and_intros
    refine Br.spd (fun h => ?_) (fun h => ?_)
    · and_intros
      refine (made_loop ⟨_, _, _, rfl⟩ l).imp ?_
      rintro ys S' ⟨rfl, rfl⟩
      have : Pl.nzf ((k, c) :: l) = Pl.nzf l := by simp [Pl.nzf, h]
      rw [this]
      exact ⟨rfl, rfl⟩
    · and_intros
      refine (made_loop ⟨_, _, _, rfl⟩ l).imp ?_
      rintro ys S' ⟨rfl, rfl⟩
      have : Pl.nzf ((k, c) :: l) = (k, c) :: Pl.nzf l := by simp [Pl.nzf, h]
      rw [this]
      exact ⟨rfl, rfl⟩
theorem made_ok {l : Pol} (e : S[n]? = some (some (.dt (Pl.tbl l)))) (hl : l.length ≤ 100000) (h : QD (Pl.d (Pl.mk l)) (S.set n none)) : Ok (F_made [.ob n] S) QD := by
  with_reducible refine Ok.def_ ?_
  simp only [frame0, List.map_cons, List.map_nil, List.length_cons, List.length_nil, Nat.reduceAdd, Nat.reduceSub, Nat.zero_add, List.reduceReplicate, List.cons_append, List.nil_append]
  unfold B_made
  and_intros
  refine Ok.cmpI (o := .dt (Pl.tbl l)) rfl e (xs := l.map Pl.prD) (congrArg some (Pl.items_tbl l)) (by rw [List.length_map]; omega) ?_
  simp only [wipeF, List.set_cons_zero, List.set_cons_succ]
  refine (made_loop ⟨_, _, _, rfl⟩ l).imp ?_
  rintro ys S' ⟨rfl, rfl⟩
  and_intros
  have hz : (Pl.nzf l).length ≤ l.length := List.length_filter_le _ _
  refine Ok.srt (by omega) ?_
  and_intros
  exact h
/-! ### sums -/
theorem set_same {o : Option O} (e : S[n]? = some o) : S.set n o = S := by
  obtain ⟨hn, rfl⟩ := List.getElem?_eq_some_iff.mp e
  exact List.set_getElem_self hn
theorem plus_loop {v0 v1 : Option D} : ∀ (q l : Pol) {S : Store} {v3 v4 : Option D}, S[n]? = some (some (.dt (Pl.tbl l))) → l.length + q.length ≤ 99999 →
    (∀ v3 v4, QS .nx [v0, v1, some (.ob n), v3, v4] (S.set n (some (.dt (Pl.tbl (Pl.addAll l q)))))) → OkS (loopL (tgTup [tgName 3, tgName 4]) L_plus_1 (q.map Pl.prD) [v0, v1, some (.ob n), v3, v4] S) QS
  | [], l, S, v3, v4, e, hl, h => by
    refine OkS.lnil ?_
    have := h v3 v4
    rw [Pl.addAll, List.foldl_nil, set_same e] at this
    exact this
  | (k, c) :: q, l, S, v3, v4, e, hl, h => by
    rw [List.map_cons]
    refine OkS.lcons ?_
    unfold L_plus_1 Pl.prD
    and_intros
    refine Ok.getF ?_
    and_intros
    refine ⟨dkQ_t e, ?_⟩
    and_intros
    refine Ok.getT e ?_
    and_intros
    refine Ok.setT e (by simp at hl; omega) ?_
    and_intros
    have hn := (List.getElem?_eq_some_iff.mp e).1
    refine plus_loop q (Pl.add1 l k c) (List.getElem?_set_self hn) (by have : (Pl.add1 l k c).length ≤ l.length + 1 := Pl.put_len; simp at hl; omega) fun v3 v4 => ?_
    have := h v3 v4
    rw [List.set_set]
    exact this
/-- a polynomial, or the pairs of one in a tuple -/
def PD (q : Pol) (y : D) : Prop := y = .ptu (q.map Pl.prD) ∨ y = .tup (q.map Pl.prD)
theorem PD.d (q : Pol) : PD q (Pl.d q) := .inl rfl
theorem itP {y : D} {Q : Src → Store → Prop} (hy : PD q y) (h : Q (srcSeq y) S) : ItQ Q y S := by
  rcases hy with rfl | rfl <;> exact ⟨⟨_, rfl⟩, h⟩
theorem srcP {y : D} {P : List D → Prop} (hy : PD q y) (h : P (q.map Pl.prD)) : SrcQ (srcSeq y) P := by
  rcases hy with rfl | rfl <;> exact ⟨_, fun _ => rfl, h⟩
theorem plus_ok {y : D} (hp : Pl.Nd p) (hl : p.length + q.length ≤ 99999) (hy : PD q y) (h : ∀ T, Ext S T → QD (Pl.d (Pl.plus p q)) T) : Ok (F_plus [Pl.d p, y] S) QD := by
  with_reducible refine Ok.def_ ?_
  simp only [frame0, List.map_cons, List.map_nil, List.length_cons, List.length_nil, Nat.reduceAdd, Nat.reduceSub, Nat.zero_add, List.reduceReplicate, List.cons_append, List.nil_append]
  unfold B_plus
  and_intros
  refine Ok.dictP hp (by omega) ?_
  and_intros
  refine itP hy ?_
  refine srcP hy ?_
  have e : (S ++ [some (.dt (Pl.tbl p))])[S.length]? = some (some (.dt (Pl.tbl p))) := by simp
  refine plus_loop q p e hl fun v3 v4 => ?_
  and_intros
  have hn := (List.getElem?_eq_some_iff.mp e).1
  refine made_ok (l := Pl.addAll p q) (List.getElem?_set_self hn) (Nat.le_trans Pl.addAll_len (by omega)) ?_
  and_intros
  refine h _ ?_
  rw [List.set_set]
  exact Ext.set Ext.app (Nat.le_refl _)
theorem minus_it {v0 v1 v2 v3 : Option D} : ∀ q : Pol, Ok (itL (tgTup [tgName 2, tgName 3]) yesF E_minus_1 [v0, v1, v2, v3] (q.map Pl.prD) S) fun ys S' => ys = (Pl.negP q).map Pl.prD ∧ S' = S
  | [] => ⟨rfl, rfl⟩
  | x :: q => by
    obtain ⟨k, c⟩ := x
    rw [List.map_cons]
    refine Ok.icons ?_
    unfold Pl.prD E_minus_1
    and_intros
    refine (minus_it q).imp ?_
    rintro ys S' ⟨rfl, rfl⟩
    exact ⟨rfl, rfl⟩
theorem minus_ok {y : D} (hp : Pl.Nd p) (hl : p.length + q.length ≤ 1000) (hy : PD q y) (h : ∀ T, Ext S T → QD (Pl.d (Pl.minus p q)) T) : Ok (F_minus [Pl.d p, y] S) QD := by
  with_reducible refine Ok.def_ ?_
  simp only [frame0, List.map_cons, List.map_nil, List.length_cons, List.length_nil, Nat.reduceAdd, Nat.reduceSub, Nat.zero_add, List.reduceReplicate, List.cons_append, List.nil_append]
  unfold B_minus
  and_intros
  refine itP hy ?_
  refine srcP hy ⟨by rw [List.length_map]; omega, ?_⟩
  and_intros
  refine (minus_it q).imp ?_
  rintro ys S' ⟨rfl, rfl⟩
  and_intros
  refine plus_ok hp (by simp [Pl.negP]; omega) (.inr rfl) h
/-! ### products -/
theorem zipT {l k : List D} {QR : Src → Store → Prop} (h : QR (fun _ => some (zipL l k)) S) : Ok (zipS [.tup l, .tup k] S) QR := h
theorem sum_it {v0 v1 v2 v3 v4 v5 v6 v7 v8 v9 : Option D} : ∀ a b : Pw, Ok (itL (tgTup [tgName 8, tgName 9]) yesF E_times_1 [v0, v1, v2, v3, v4, v5, v6, v7, v8, v9] (zipL (a.map .int) (b.map .int)) S) fun ys S' => ys = (Pl.sumK a b).map .int ∧ S' = S
  | [], b => ⟨by simp [Pl.sumK], rfl⟩
  | _ :: _, [] => ⟨by simp [Pl.sumK], rfl⟩
  | x :: a, y :: b => by
    simp only [List.map_cons, zipL]
    refine Ok.icons ?_
    unfold E_times_1
    and_intros
    refine (sum_it a b).imp ?_
    rintro ys S' ⟨rfl, rfl⟩
    exact ⟨rfl, rfl⟩
theorem times_in {v0 v1 : Option D} {a : Pw} {c : Int} {A B : Nat} (hA : c.natAbs < 2 ^ A) (hA0 : 0 < A) (hB0 : 0 < B) (hAB : A + B ≤ 1000000) (ha : a.length ≤ 1000) : ∀ (q l : Pol) {S : Store} {v5 v6 v7 v8 v9 : Option D}, (∀ x ∈ q, x.2.natAbs < 2 ^ B) → S[n]? = some (some (.dt (Pl.tbl l))) → l.length + q.length ≤ 99999 →
    (∀ v5 v6 v7 v8 v9, QS .nx [v0, v1, some (.ob n), some (Pl.intsD a), some (.int c), v5, v6, v7, v8, v9] (S.set n (some (.dt (Pl.tbl (Pl.addAll l (Pl.scale a c q))))))) →
    OkS (loopL (tgTup [tgName 5, tgName 6]) L_times_2 (q.map Pl.prD) [v0, v1, some (.ob n), some (Pl.intsD a), some (.int c), v5, v6, v7, v8, v9] S) QS
  | [], l, S, v5, v6, v7, v8, v9, hq, e, hl, h => by
    refine OkS.lnil ?_
    have := h v5 v6 v7 v8 v9
    rw [Pl.scale, List.map_nil, Pl.addAll, List.foldl_nil, set_same e] at this
    exact this
  | (k, e') :: q, l, S, v5, v6, v7, v8, v9, hq, e, hl, h => by
    rw [List.map_cons]
    refine OkS.lcons ?_
    unfold L_times_2 Pl.prD
    and_intros
    unfold Pl.intsD
    refine zipT ?_
    and_intros
    refine ⟨Nat.le_trans (by rw [zipL_len]; exact Nat.min_le_left _ _) (by simpa using ha), ?_⟩
    and_intros
    refine (sum_it a k).imp ?_
    rintro ys S' ⟨rfl, rfl⟩
    and_intros
    refine Ok.getF ?_
    and_intros
    refine ⟨dkQ_t e, ?_⟩
    and_intros
    refine Ok.getT e ?_
    and_intros
    refine Ok.mul_ii hA (hq (k, e') (List.mem_cons_self ..)) hA0 hB0 hAB ?_
    and_intros
    refine Ok.setT e (by simp at hl; omega) ?_
    and_intros
    have hn := (List.getElem?_eq_some_iff.mp e).1
    refine times_in hA hA0 hB0 hAB ha q (Pl.add1 l (Pl.sumK a k) (c * e')) (fun x hx => hq x (List.mem_cons_of_mem _ hx)) (List.getElem?_set_self hn) (by have : (Pl.add1 l (Pl.sumK a k) (c * e')).length ≤ l.length + 1 := Pl.put_len; simp at hl; omega) fun v5 v6 v7 v8 v9 => ?_
    have := h v5 v6 v7 v8 v9
    rw [List.set_set]
    exact this
theorem times_out {v0 : Option D} {y : D} {q : Pol} {A B : Nat} (hA0 : 0 < A) (hB0 : 0 < B) (hAB : A + B ≤ 1000000) (hy : PD q y) (hq : ∀ x ∈ q, x.2.natAbs < 2 ^ B) : ∀ (p l : Pol) {S : Store} {v3 v4 v5 v6 v7 v8 v9 : Option D}, (∀ x ∈ p, x.2.natAbs < 2 ^ A ∧ x.1.length ≤ 1000) → S[n]? = some (some (.dt (Pl.tbl l))) → l.length + p.length * q.length ≤ 99999 →
    (∀ v3 v4 v5 v6 v7 v8 v9, QS .nx [v0, some y, some (.ob n), v3, v4, v5, v6, v7, v8, v9] (S.set n (some (.dt (Pl.tbl (Pl.mulAll l p q)))))) →
    OkS (loopL (tgTup [tgName 3, tgName 4]) L_times_1 (p.map Pl.prD) [v0, some y, some (.ob n), v3, v4, v5, v6, v7, v8, v9] S) QS
  | [], l, S, v3, v4, v5, v6, v7, v8, v9, hp, e, hl, h => by
    refine OkS.lnil ?_
    have := h v3 v4 v5 v6 v7 v8 v9
    rw [Pl.mulAll, List.foldl_nil, set_same e] at this
    exact this
  | (k, c) :: p, l, S, v3, v4, v5, v6, v7, v8, v9, hp, e, hl, h => by
    rw [List.map_cons]
    refine OkS.lcons ?_
    unfold L_times_1 Pl.prD
    rw [List.length_cons, Nat.succ_mul] at hl
    and_intros
    refine itP hy ?_
    refine srcP hy ?_
    have hk := hp (k, c) (List.mem_cons_self ..)
    refine times_in hk.1 hA0 hB0 hAB hk.2 q l hq e (by omega) fun v5 v6 v7 v8 v9 => ?_
    and_intros
    have hn := (List.getElem?_eq_some_iff.mp e).1
    refine times_out hA0 hB0 hAB hy hq p (Pl.addAll l (Pl.scale k c q)) (fun x hx => hp x (List.mem_cons_of_mem _ hx)) (List.getElem?_set_self hn) ?_ fun v3 v4 v5 v6 v7 v8 v9 => ?_
    · have h1 := Pl.addAll_len (q := Pl.scale k c q) (l := l)
      have h2 : (Pl.scale k c q).length = q.length := by simp [Pl.scale]
      omega
    · have := h v3 v4 v5 v6 v7 v8 v9
      rw [List.set_set]
      exact this
theorem times_ok {x y : D} {A B : Nat} (hx : PD p x) (hy : PD q y) (hA0 : 0 < A) (hB0 : 0 < B) (hAB : A + B ≤ 1000000) (hp : ∀ x ∈ p, x.2.natAbs < 2 ^ A ∧ x.1.length ≤ 1000) (hq : ∀ x ∈ q, x.2.natAbs < 2 ^ B) (hl : p.length * q.length ≤ 99999)
    (h : ∀ T, Ext S T → QD (Pl.d (Pl.times p q)) T) : Ok (F_times [x, y] S) QD := by
  with_reducible refine Ok.def_ ?_
  simp only [frame0, List.map_cons, List.map_nil, List.length_cons, List.length_nil, Nat.reduceAdd, Nat.reduceSub, Nat.zero_add, List.reduceReplicate, List.cons_append, List.nil_append]
  unfold B_times
  and_intros
  refine Ok.dctT ?_
  and_intros
  refine itP hx ?_
  refine srcP hx ?_
  have e : (S ++ [some (.dt [])])[S.length]? = some (some (.dt (Pl.tbl []))) := by simp [Pl.tbl]
  refine times_out hA0 hB0 hAB hy hq p [] hp e (by simp; omega) fun v3 v4 v5 v6 v7 v8 v9 => ?_
  and_intros
  have hn := (List.getElem?_eq_some_iff.mp e).1
  have hm := Pl.mulAll_len q (p := p) (l := [])
  refine made_ok (l := Pl.mulAll [] p q) (List.getElem?_set_self hn) (by simp at hm; omega) ?_
  and_intros
  refine h _ ?_
  rw [List.set_set]
  exact Ext.set Ext.app (Nat.le_refl _)
/-! ### constants, unknowns -/
theorem Ok.mulT1 {x : D} (hm : m ≤ 1000) (h : QD (.tup (List.replicate m x)) S) : Ok (mulT (.tup [x]) (.int (m : Nat)) S) QD := by
  refine Ok.of (v := .tup (List.replicate m x)) (S1 := S) ?_ h
  unfold mulT
  by_cases h1 : m = 1
  · subst h1
    rfl
  · by_cases h0 : m = 0
    · subst h0
      rfl
    · dsimp only
      rw [if_neg (by omega), if_neg (by omega)]
      unfold mul2D
      dsimp only
      rw [if_pos ⟨by simp, by omega, by omega, by simp⟩]
      simp
theorem constant_ok {c : Int} (hm : m ≤ 1000) (h : QD (Pl.d (Pl.const m c)) S) : Ok (F_constant [.int (m : Nat), .int c] S) QD := by
  with_reducible refine Ok.def_ ?_
  simp only [frame0, List.map_cons, List.map_nil, List.length_cons, List.length_nil, Nat.reduceAdd, Nat.reduceSub, Nat.zero_add, List.reduceReplicate, List.cons_append, List.nil_append]
  unfold B_constant
  and_intros
  refine Br.spd (fun e => ?_) (fun e => ?_)
  · subst e
    and_intros
    exact h
  · and_intros
    refine Ok.mulT1 hm ?_
    and_intros
    have e2 : Pl.const m c = [(List.replicate m 0, c)] := if_neg e
    rw [e2] at h
    simpa [Pl.d, Pl.prD, Pl.intsD] using h
theorem unit_it {v0 v2 : Option D} {j : Nat} : ∀ (n i : Nat), Ok (itL (tgName 2) yesF E_unknown_1 [v0, some (.int (j : Nat)), v2] (((List.range' i n)).map fun i => .int (i : Nat)) S) fun ys S' => ys = ((List.range' i n).map fun i => D.int (if i = j then 1 else 0)) ∧ S' = S
  | 0, i => ⟨rfl, rfl⟩
  | n + 1, i => by
    rw [List.range'_succ, List.map_cons]
    refine Ok.icons ?_
    unfold E_unknown_1
    and_intros
    refine (unit_it n (i + 1)).imp ?_
    rintro ys S' ⟨rfl, rfl⟩
    refine ⟨?_, rfl⟩
    rw [List.map_cons]
    congr 2
    by_cases e : i = j
    · subst e; simp
    · have : ¬ (i : Int) = (j : Int) := by omega
      simp [e, this]
theorem rngL0 (n : Nat) : rngL 0 n = (List.range' 0 n).map fun i => .int (i : Nat) := by
  unfold rngL
  rw [List.range_eq_range']
  apply List.map_congr_left
  intro x _
  rw [Int.zero_add]
theorem unknown_ok {j : Nat} (hm : m ≤ 1000) (h : QD (Pl.d (Pl.unk m j)) S) : Ok (F_unknown [.int (m : Nat), .int (j : Nat)] S) QD := by
  with_reducible refine Ok.def_ ?_
  simp only [frame0, List.map_cons, List.map_nil, List.length_cons, List.length_nil, Nat.reduceAdd, Nat.reduceSub, Nat.zero_add, List.reduceReplicate, List.cons_append, List.nil_append]
  unfold B_unknown
  and_intros
  rw [show ((m : Nat) : Int).toNat = m from rfl, rngL0]
  refine ⟨by rw [List.length_map, List.length_range']; exact hm, ?_⟩
  and_intros
  refine (unit_it m 0).imp ?_
  rintro ys S' ⟨rfl, rfl⟩
  and_intros
  have e : Pl.d (Pl.unk m j) = .ptu [.tup [.tup ((List.range' 0 m).map fun i => D.int (if i = j then 1 else 0)), .int 1]] := by
    unfold Pl.d Pl.unk Pl.prD Pl.intsD Pl.unit
    rw [List.range_eq_range']
    simp
  rw [e] at h
  exact h
theorem unknownI {w z : Int} (hw : w = (m : Nat)) (hz : 0 ≤ z) (hm : m ≤ 1000) (h : QD (Pl.d (Pl.unk m z.toNat)) S) : Ok (F_unknown [.int w, .int z] S) QD := by
  have e : z = ((z.toNat : Nat) : Int) := by omega
  subst hw
  generalize z.toNat = j at *
  subst e
  with_reducible exact @unknown_ok S QD m j hm h
theorem constantI {w c : Int} (hw : w = (m : Nat)) (hm : m ≤ 1000) (h : QD (Pl.d (Pl.const m c)) S) : Ok (F_constant [.int w, .int c] S) QD := by
  subst hw
  with_reducible exact @constant_ok S QD m c hm h
end
end DL.Lb
namespace DL.Lb
open PySem PySem.Spec PyProof.Rows L2 DL
local macro_rules | `(tactic| and_intros) => `(tactic| repeat (first | ((with_reducible refine Ok.tgT ?_ ?_); (exact rfl)) | ((with_reducible refine Ok.tgQt ?_ ?_); (exact rfl)) | ((with_reducible refine Ok.tgQl ?_ ?_); (exact rfl)) | with_reducible refine Ok.tupP ?_ | with_reducible refine Ok.tupleP ?_ | ((with_reducible refine Ok.isi_ptu (p := true) ?_ ?_); decide +kernel) | ((with_reducible refine Ok.isi_ptu (p := false) ?_ ?_); decide +kernel) | with_reducible refine ItQ.ptu ?_ | with_reducible refine SrcQ.ptu ?_ | with_reducible refine Ok.len_p ?_ | with_reducible refine Ok.sli_tail ?_ | ((with_reducible refine Ok.var ?_); refine ⟨_, rfl, ?_⟩) | ((with_reducible refine Fr.go ?_); intro fr_ e_; simp only [List.set_cons_zero, List.set_cons_succ, setAll, wipeF] at e_; subst e_) | with_reducible refine Ok.bin ?_ | with_reducible refine Ok.calp ?_ | with_reducible refine Ok.cal ?_ | with_reducible refine Ok.cst ?_ | with_reducible refine Ok.acons ?_ | with_reducible refine Ok.anil ?_ | with_reducible refine Ok.un ?_ | with_reducible refine Ok.tb ?_ | with_reducible refine Ok.tsb ?_ | with_reducible refine OkS.seq ?_ | with_reducible refine OkS.asg ?_ | with_reducible refine Then.nx ?_ | with_reducible refine Then.rt ?_ | with_reducible refine OkS.ifS ?_ | with_reducible refine Ok.notF ?_ | with_reducible refine Ok.andF ?_ | with_reducible refine Ok.orF ?_ | with_reducible refine Ok.ite ?_ | with_reducible refine Br.t ?_ | with_reducible refine Br.f ?_ | with_reducible refine Br.not ?_ | ((with_reducible refine OkS.aug ?_); refine ⟨_, rfl, ?_⟩) | ((with_reducible refine Ok.ix_t ?_); refine ⟨_, rfl, ?_⟩) | ((with_reducible refine Ok.ix_l ?_); refine ⟨_, rfl, ?_⟩) | ((with_reducible refine Ok.tgT ?_ ?_); exact rfl) | with_reducible refine Ok.tup ?_ | with_reducible refine Ok.lst ?_ | with_reducible refine Ok.lstO ?_ | with_reducible refine Ok.tst ?_ | with_reducible refine Ok.tru_bl ?_ | with_reducible refine Ok.tru_non ?_ | with_reducible refine Ok.tru_tup ?_ | with_reducible refine Ok.tru_lst ?_ | with_reducible refine Ok.tru_int ?_ | with_reducible refine Ok.boolF ?_ | with_reducible refine Ok.andV ?_ | with_reducible refine Ok.orV ?_ | with_reducible refine Ok.notV ?_ | with_reducible refine Ok.yes ?_ | with_reducible refine Ok.prtN ?_ | with_reducible refine Ok.prtS ?_ | with_reducible refine Ok.sli ?_ | with_reducible refine Ok.chF ?_ | with_reducible refine Ok.exi ?_ | with_reducible refine Ok.exb ?_ | with_reducible refine Ok.add_ii ?_ | with_reducible refine Ok.sub_ii ?_ | with_reducible refine Ok.neg_i ?_ | with_reducible refine Ok.lt_ii ?_ | with_reducible refine Ok.le_ii ?_ | with_reducible refine Ok.gt_ii ?_ | with_reducible refine Ok.ge_ii ?_ | with_reducible refine Ok.eq_ii ?_ | with_reducible refine Ok.ne_ii ?_ | with_reducible refine Ok.eq_ss ?_ | with_reducible refine Ok.ne_ss ?_ | with_reducible refine Ok.in_ss ?_ | with_reducible refine Ok.nin_ss ?_ | with_reducible refine Ok.is_nn ?_ | with_reducible refine Ok.int_i ?_ | with_reducible refine Ok.int_b ?_ | with_reducible refine Ok.str_s ?_ | with_reducible refine Ok.max_ii ?_ | with_reducible refine Ok.min_ii ?_ | with_reducible refine Ok.len_t ?_ | with_reducible refine Ok.len_l ?_ | with_reducible refine Ok.tup_t ?_ | with_reducible refine Ok.tup_l ?_ | with_reducible refine Ok.lst_t ?_ | with_reducible refine Ok.lst_l ?_ | with_reducible refine Ok.sli_t ?_ | with_reducible refine Ok.sli_l ?_ | with_reducible refine OkS.ret ?_ | with_reducible refine OkS.retN ?_ | with_reducible refine OkS.expr ?_ | with_reducible refine OkS.nx ?_ | with_reducible refine OkS.bk ?_ | with_reducible refine OkS.ct ?_ | with_reducible refine Then.bk ?_ | with_reducible refine Then.ct ?_ | with_reducible refine Rt.rt ?_ | with_reducible refine Rt.nx ?_ | with_reducible refine Lp.nx ?_ | with_reducible refine Lp.ct ?_ | with_reducible refine Lp.bk ?_ | with_reducible refine Lp.rt ?_ | with_reducible refine OkS.asgG ?_ | with_reducible refine OkS.par ?_ | with_reducible refine Ok.iadd_ii ?_ | with_reducible refine Ok.isub_ii ?_ | with_reducible refine Ok.tgN ?_ | with_reducible refine Ok.tgA0 ?_ | with_reducible refine Ok.tgA ?_ | with_reducible refine Ok.tgSub ?_ | with_reducible refine Ok.rngF ?_ | with_reducible refine Ok.cmpD ?_ | with_reducible refine Ok.cmpO ?_ | with_reducible refine Ok.ret ?_ | with_reducible refine Ok.ok ?_ | with_reducible refine Ok.newO ?_ | with_reducible refine Ok.bnd ?_ | with_reducible refine OkS.fore ?_ | with_reducible refine Ok.cmpe ?_ | with_reducible refine Ok.itT ?_ | with_reducible refine ItQ.tup ?_ | with_reducible refine ItQ.lst ?_ | with_reducible refine ItQ.ctu ?_ | with_reducible refine SrcQ.con ?_ | with_reducible refine SrcQ.tup ?_ | with_reducible refine SrcQ.lst ?_ | with_reducible refine SrcQ.ctu ?_ | ((with_reducible refine Ok.mod_ii ?_ ?_); (first | decide | (simp; done) | (simp; omega))) | ((with_reducible refine Ok.add_tt ?_ ?_); (first | decide | (simp; done) | (simp; omega))) | ((with_reducible refine Ok.add_ll ?_ ?_); (first | decide | (simp; done) | (simp; omega))) | ((with_reducible refine Ok.add_ss ?_ ?_); (first | decide | (simp; done) | (simp; omega))) | ((with_reducible refine Ok.rng1 ?_ ?_); (first | decide | omega | (simp; omega))) | ((with_reducible refine Br.dt ?_ ?_); (first | assumption | exact rfl | omega | decide +kernel)) | ((with_reducible refine Br.df ?_ ?_); (first | assumption | omega | decide +kernel)) | ((with_reducible refine Br.tt ?_ ?_); (first | assumption | decide +kernel)) | ((with_reducible refine Br.ff ?_ ?_); (first | assumption | decide +kernel)) | with_reducible refine Ok.is_in ?_ | with_reducible refine Ok.is_tn ?_ | with_reducible refine Ok.is_bn ?_ | with_reducible refine Ok.is_sn ?_ | with_reducible refine Ok.nis_in ?_ | with_reducible refine Ok.nis_tn ?_ | with_reducible refine Ok.nis_bn ?_ | with_reducible refine Ok.nis_sn ?_ | with_reducible refine OkS.lcons ?_ | with_reducible refine OkS.lnil ?_ | with_reducible refine Ok.icons ?_ | with_reducible refine Ok.inil ?_ | with_reducible refine Ok.is_bb ?_ | with_reducible refine Ok.nis_bb ?_ | with_reducible refine Ok.nis_nn ?_ | with_reducible refine Ok.pcons ?_ | with_reducible refine Ok.pnil ?_ | with_reducible refine Ok.dctK ?_ | with_reducible refine Ok.tgDic ?_ | with_reducible refine Ok.fld ?_ | with_reducible refine Ok.tgAtt ?_ | with_reducible refine Ok.makO ?_ | ((with_reducible refine Ok.isi_tup (p := true) ?_ ?_); decide +kernel) | ((with_reducible refine Ok.isi_tup (p := false) ?_ ?_); decide +kernel) | ((with_reducible refine Ok.isi_int (p := true) ?_ ?_); decide +kernel) | ((with_reducible refine Ok.isi_int (p := false) ?_ ?_); decide +kernel) | ((with_reducible refine Ok.isi_str (p := true) ?_ ?_); decide +kernel) | ((with_reducible refine Ok.isi_str (p := false) ?_ ?_); decide +kernel) | ((with_reducible refine Ok.isi_lst (p := true) ?_ ?_); decide +kernel) | ((with_reducible refine Ok.isi_lst (p := false) ?_ ?_); decide +kernel) | ((with_reducible refine Ok.isi_bl (p := true) ?_ ?_); decide +kernel) | ((with_reducible refine Ok.isi_bl (p := false) ?_ ?_); decide +kernel) | ((with_reducible refine Ok.isi_non (p := true) ?_ ?_); decide +kernel) | ((with_reducible refine Ok.isi_non (p := false) ?_ ?_); decide +kernel) | ((with_reducible refine Ok.isi_ctu (p := true) ?_ ?_); decide +kernel) | ((with_reducible refine Ok.isi_ctu (p := false) ?_ ?_); decide +kernel) | ((with_reducible refine Ok.isi_emp (p := true) ?_ ?_); decide +kernel) | ((with_reducible refine Ok.isi_emp (p := false) ?_ ?_); decide +kernel) | (with_reducible refine Ok.disp ?_)))
/-! ### the laws' look at a polynomial -/
section
variable {S : Store} {QD : D → Store → Prop} {QS : Fl → DL.Frame → Store → Prop} {QL : List D → Store → Prop} {n m : Nat} {p q : Pol}
theorem ne_nil0 (h : QD (.bl false) S) : Ok (neD (.lst []) (.lst []) S) QD := Ok.of (v := .bl false) (S1 := S) rfl h
theorem eq_nil0 (h : QD (.bl true) S) : Ok (eqD (.lst []) (.lst []) S) QD := Ok.of (v := .bl true) (S1 := S) rfl h
theorem ltX_ints {a b : Pw} (h : QD (.bl (decide (a < b))) S) : Ok (ltX (Pl.intsD a) (Pl.intsD b) S) QD := by
  refine Ok.of (v := .bl (decide (a < b))) (S1 := S) ?_ h
  have e : ∀ k : Pw, pyS S (Pl.intsD k) = some (.tuple (k.map .int)) := fun k => by show py (.tup (k.map .int)) = _; rw [py, Pl.pys_ints]; rfl
  unfold ltX
  simp only [e]
  rw [if_pos ⟨by simp [PySem.W.alike, PySem.W.alike_ints], rfl, by simp [PyData.depth, Pl.depth_ints]⟩, Pl.lt_tints]
theorem whole_ok {i : Int} (h : QD (.bl (decide (0 ≤ i))) S) : Ok (F_x_is_whole [.int i, .int 0] S) QD := by
  with_reducible refine Ok.def_ ?_
  simp only [frame0, List.map_cons, List.map_nil, List.length_cons, List.length_nil, Nat.reduceAdd, Nat.reduceSub, Nat.zero_add, List.reduceReplicate, List.cons_append, List.nil_append]
  unfold B_x_is_whole
  and_intros
  exact h
theorem pos_it {v0 v1 v2 v3 v4 v5 : Option D} : ∀ k : Pw, (∀ i ∈ k, 0 ≤ i) → Ok (itL (tgName 5) T_x_is_poly_1 E_x_is_poly_1 [v0, v1, v2, v3, v4, v5] (k.map .int) S) fun ys S' => ys = [] ∧ S = S'
  | [], _ => ⟨rfl, rfl⟩
  | i :: k, h => by
    rw [List.map_cons]
    refine Ok.icons ?_
    unfold T_x_is_poly_1
    and_intros
    refine whole_ok ?_
    and_intros
    rw [decide_eq_true (h i (List.mem_cons_self ..))]
    and_intros
    exact pos_it k fun i hi => h i (List.mem_cons_of_mem _ hi)
theorem is_poly_loop {v0 v3 v4 v5 : Option D} : ∀ (p : Pol) {v2 : Option D}, (∀ x ∈ p, x.1.length = m ∧ (∀ i ∈ x.1, 0 ≤ i) ∧ x.2 ≠ 0) → m ≤ 1000 → (∀ v2, QS .nx [v0, some (.int (m : Nat)), v2, v3, v4, v5] S) →
    OkS (loopL (tgName 2) L_x_is_poly_1 (p.map Pl.prD) [v0, some (.int (m : Nat)), v2, v3, v4, v5] S) QS
  | [], v2, _, _, h => OkS.lnil (h v2)
  | (k, c) :: p, v2, hp, hm, h => by
    obtain ⟨h1, h2, h3⟩ := hp (k, c) (List.mem_cons_self ..)
    rw [List.map_cons]
    refine OkS.lcons ?_
    unfold L_x_is_poly_1 Pl.prD Pl.intsD
    and_intros
    refine Br.dt (by simp [h1]) ?_
    and_intros
    refine ⟨by simp [h1]; exact hm, ?_⟩
    and_intros
    refine (pos_it k h2).imp ?_
    rintro ys S' ⟨rfl, rfl⟩
    and_intros
    refine ne_nil0 ?_
    and_intros
    exact is_poly_loop p (fun x hx => hp x (List.mem_cons_of_mem _ hx)) hm h
theorem pows_it {v0 v1 v2 v3 v4 v5 : Option D} : ∀ p : Pol, Ok (itL (tgName 2) yesF E_x_is_poly_2 [v0, v1, v2, v3, v4, v5] (p.map Pl.prD) S) fun ys S' => ys = p.map (fun x => Pl.intsD x.1) ∧ S' = S
  | [] => ⟨rfl, rfl⟩
  | x :: p => by
    rw [List.map_cons]
    refine Ok.icons ?_
    unfold E_x_is_poly_2 Pl.prD
    and_intros
    refine (pows_it p).imp ?_
    rintro ys S' ⟨rfl, rfl⟩
    exact ⟨rfl, rfl⟩
theorem asc_it {v0 v1 v2 v4 v5 : Option D} (p : Pol) (hp : Pl.Asc p) : ∀ (n i : Nat), i + 1 + n ≤ p.length → Ok (itL (tgName 4) T_x_is_poly_3 E_x_is_poly_3 [v0, v1, v2, some (.lst (p.map fun x => Pl.intsD x.1)), v4, v5] ((List.range' i n).map fun j => .int (1 + (j : Nat))) S) fun ys S' => ys = [] ∧ S' = S
  | 0, i, _ => ⟨rfl, rfl⟩
  | n + 1, i, h => by
    rw [List.range'_succ, List.map_cons]
    refine Ok.icons ?_
    unfold T_x_is_poly_3
    and_intros
    have e : (1 + (i : Int) - 1) = (i : Nat) := by omega
    have e2 : (1 + (i : Int)) = ((i + 1 : Nat) : Int) := by omega
    rw [e]
    have h1 : i < p.length := by omega
    have h2 : i + 1 < p.length := by omega
    refine Ok.ix_l ⟨Pl.intsD p[i].1, atI_nat (k := i) rfl (by rw [List.getElem?_map, List.getElem?_eq_getElem h1]; rfl), ?_⟩
    and_intros
    rw [e2]
    refine Ok.ix_l ⟨Pl.intsD p[i + 1].1, atI_nat (k := i + 1) rfl (by rw [List.getElem?_map, List.getElem?_eq_getElem h2]; rfl), ?_⟩
    and_intros
    refine ltX_ints ?_
    and_intros
    rw [decide_eq_true (List.pairwise_iff_getElem.mp hp i (i + 1) h1 h2 (by omega))]
    and_intros
    exact asc_it p hp n (i + 1) (by omega)
theorem rngL1 (n : Nat) : rngL 1 n = (List.range' 0 n).map fun i => .int (1 + (i : Nat)) := by
  unfold rngL
  rw [List.range_eq_range']
theorem is_poly_ok (hp : Pl.Cn m p) (hm : m ≤ 1000) (hl : p.length ≤ 1000) (h : QD (.bl true) S) : Ok (F_x_is_poly [Pl.d p, .int (m : Nat)] S) QD := by
  unfold Pl.d
  with_reducible refine Ok.def_ ?_
  simp only [frame0, List.map_cons, List.map_nil, List.length_cons, List.length_nil, Nat.reduceAdd, Nat.reduceSub, Nat.zero_add, List.reduceReplicate, List.cons_append, List.nil_append]
  unfold B_x_is_poly
  and_intros
  refine is_poly_loop p (fun x hx => ⟨hp.len x hx, hp.pos x hx, hp.nz x hx⟩) hm fun v2 => ?_
  and_intros
  refine ⟨by rw [List.length_map]; exact hl, ?_⟩
  and_intros
  with_reducible refine (pows_it p).imp ?_
  intro ys S' hh
  have e1 := hh.1
  have e2 := hh.2
  clear hh
  subst e1 e2
  and_intros
  with_reducible refine Ok.rng2 ?_ ?_ ?_
  · decide
  · simp; omega
  and_intros
  have e : (((p.map fun x => Pl.intsD x.1).length : Int) - 1).toNat = p.length - 1 := by rw [List.length_map]; omega
  rw [e, rngL1]
  refine ⟨by rw [List.length_map, List.length_range']; omega, ?_⟩
  and_intros
  have fin : ∀ v2, Ok (itL (tgName 4) T_x_is_poly_3 E_x_is_poly_3 [some (.ptu (p.map Pl.prD)), some (.int (m : Nat)), v2, some (.lst (p.map fun x => Pl.intsD x.1)), none, none] ((List.range' 0 (p.length - 1)).map fun j => .int (1 + (j : Nat))) S') fun ys S2 => ys = [] ∧ S2 = S' := fun v2 => by
    cases p with
    | nil => exact ⟨rfl, rfl⟩
    | cons x p => exact asc_it (x :: p) hp.asc _ 0 (by simp; omega)
  with_reducible refine (fin v2).imp ?_
  intro ys S2 hh
  have e1 := hh.1
  have e2 := hh.2
  clear hh
  subst e1 e2
  and_intros
  refine eq_nil0 ?_
  and_intros
  exact h
theorem is_polyI {w : Int} (hw : w = (m : Nat)) (hp : Pl.Cn m p) (hm : m ≤ 1000) (hl : p.length ≤ 1000) (h : QD (.bl true) S) : Ok (F_x_is_poly [Pl.d p, .int w] S) QD := by
  subst hw
  with_reducible exact @is_poly_ok S QD m p hp hm hl h
end
end DL.Lb
namespace K09
open PySem PySem.Spec PyProof.Rows L2 DL
local macro_rules | `(tactic| and_intros) => `(tactic| repeat (first | ((with_reducible refine Ok.tgT ?_ ?_); (exact rfl)) | ((with_reducible refine Ok.tgQt ?_ ?_); (exact rfl)) | ((with_reducible refine Ok.tgQl ?_ ?_); (exact rfl)) | with_reducible refine Ok.tupP ?_ | with_reducible refine Ok.tupleP ?_ | ((with_reducible refine Ok.isi_ptu (p := true) ?_ ?_); decide +kernel) | ((with_reducible refine Ok.isi_ptu (p := false) ?_ ?_); decide +kernel) | with_reducible refine ItQ.ptu ?_ | with_reducible refine SrcQ.ptu ?_ | with_reducible refine Ok.len_p ?_ | with_reducible refine Ok.sli_tail ?_ | ((with_reducible refine Ok.var ?_); refine ⟨_, rfl, ?_⟩) | ((with_reducible refine Fr.go ?_); intro fr_ e_; simp only [List.set_cons_zero, List.set_cons_succ, setAll, wipeF] at e_; subst e_) | with_reducible refine Ok.bin ?_ | with_reducible refine Ok.calp ?_ | with_reducible refine Ok.cal ?_ | with_reducible refine Ok.cst ?_ | with_reducible refine Ok.acons ?_ | with_reducible refine Ok.anil ?_ | with_reducible refine Ok.un ?_ | with_reducible refine Ok.tb ?_ | with_reducible refine Ok.tsb ?_ | with_reducible refine OkS.seq ?_ | with_reducible refine OkS.asg ?_ | with_reducible refine Then.nx ?_ | with_reducible refine Then.rt ?_ | with_reducible refine OkS.ifS ?_ | with_reducible refine Ok.notF ?_ | with_reducible refine Ok.andF ?_ | with_reducible refine Ok.orF ?_ | with_reducible refine Ok.ite ?_ | with_reducible refine Br.t ?_ | with_reducible refine Br.f ?_ | with_reducible refine Br.not ?_ | ((with_reducible refine OkS.aug ?_); refine ⟨_, rfl, ?_⟩) | ((with_reducible refine Ok.ix_t ?_); refine ⟨_, rfl, ?_⟩) | ((with_reducible refine Ok.ix_l ?_); refine ⟨_, rfl, ?_⟩) | ((with_reducible refine Ok.tgT ?_ ?_); exact rfl) | with_reducible refine Ok.tup ?_ | with_reducible refine Ok.lst ?_ | with_reducible refine Ok.lstO ?_ | with_reducible refine Ok.tst ?_ | with_reducible refine Ok.tru_bl ?_ | with_reducible refine Ok.tru_non ?_ | with_reducible refine Ok.tru_tup ?_ | with_reducible refine Ok.tru_lst ?_ | with_reducible refine Ok.tru_int ?_ | with_reducible refine Ok.boolF ?_ | with_reducible refine Ok.andV ?_ | with_reducible refine Ok.orV ?_ | with_reducible refine Ok.notV ?_ | with_reducible refine Ok.yes ?_ | with_reducible refine Ok.prtN ?_ | with_reducible refine Ok.prtS ?_ | with_reducible refine Ok.sli ?_ | with_reducible refine Ok.chF ?_ | with_reducible refine Ok.exi ?_ | with_reducible refine Ok.exb ?_ | with_reducible refine Ok.add_ii ?_ | with_reducible refine Ok.sub_ii ?_ | with_reducible refine Ok.neg_i ?_ | with_reducible refine Ok.lt_ii ?_ | with_reducible refine Ok.le_ii ?_ | with_reducible refine Ok.gt_ii ?_ | with_reducible refine Ok.ge_ii ?_ | with_reducible refine Ok.eq_ii ?_ | with_reducible refine Ok.ne_ii ?_ | with_reducible refine Ok.eq_ss ?_ | with_reducible refine Ok.ne_ss ?_ | with_reducible refine Ok.in_ss ?_ | with_reducible refine Ok.nin_ss ?_ | with_reducible refine Ok.is_nn ?_ | with_reducible refine Ok.int_i ?_ | with_reducible refine Ok.int_b ?_ | with_reducible refine Ok.str_s ?_ | with_reducible refine Ok.max_ii ?_ | with_reducible refine Ok.min_ii ?_ | with_reducible refine Ok.len_t ?_ | with_reducible refine Ok.len_l ?_ | with_reducible refine Ok.tup_t ?_ | with_reducible refine Ok.tup_l ?_ | with_reducible refine Ok.lst_t ?_ | with_reducible refine Ok.lst_l ?_ | with_reducible refine Ok.sli_t ?_ | with_reducible refine Ok.sli_l ?_ | with_reducible refine OkS.ret ?_ | with_reducible refine OkS.retN ?_ | with_reducible refine OkS.expr ?_ | with_reducible refine OkS.nx ?_ | with_reducible refine OkS.bk ?_ | with_reducible refine OkS.ct ?_ | with_reducible refine Then.bk ?_ | with_reducible refine Then.ct ?_ | with_reducible refine Rt.rt ?_ | with_reducible refine Rt.nx ?_ | with_reducible refine Lp.nx ?_ | with_reducible refine Lp.ct ?_ | with_reducible refine Lp.bk ?_ | with_reducible refine Lp.rt ?_ | with_reducible refine OkS.asgG ?_ | with_reducible refine OkS.par ?_ | with_reducible refine Ok.iadd_ii ?_ | with_reducible refine Ok.isub_ii ?_ | with_reducible refine Ok.tgN ?_ | with_reducible refine Ok.tgA0 ?_ | with_reducible refine Ok.tgA ?_ | with_reducible refine Ok.tgSub ?_ | with_reducible refine Ok.rngF ?_ | with_reducible refine Ok.cmpD ?_ | with_reducible refine Ok.cmpO ?_ | with_reducible refine Ok.ret ?_ | with_reducible refine Ok.ok ?_ | with_reducible refine Ok.newO ?_ | with_reducible refine Ok.bnd ?_ | with_reducible refine OkS.fore ?_ | with_reducible refine Ok.cmpe ?_ | with_reducible refine Ok.itT ?_ | with_reducible refine ItQ.tup ?_ | with_reducible refine ItQ.lst ?_ | with_reducible refine ItQ.ctu ?_ | with_reducible refine SrcQ.con ?_ | with_reducible refine SrcQ.tup ?_ | with_reducible refine SrcQ.lst ?_ | with_reducible refine SrcQ.ctu ?_ | ((with_reducible refine Ok.mod_ii ?_ ?_); (first | decide | (simp; done) | (simp; omega))) | ((with_reducible refine Ok.add_tt ?_ ?_); (first | decide | (simp; done) | (simp; omega))) | ((with_reducible refine Ok.add_ll ?_ ?_); (first | decide | (simp; done) | (simp; omega))) | ((with_reducible refine Ok.add_ss ?_ ?_); (first | decide | (simp; done) | (simp; omega))) | ((with_reducible refine Ok.rng1 ?_ ?_); (first | decide | omega | (simp; omega))) | ((with_reducible refine Br.dt ?_ ?_); (first | assumption | exact rfl | omega | decide +kernel)) | ((with_reducible refine Br.df ?_ ?_); (first | assumption | omega | decide +kernel)) | ((with_reducible refine Br.tt ?_ ?_); (first | assumption | decide +kernel)) | ((with_reducible refine Br.ff ?_ ?_); (first | assumption | decide +kernel)) | with_reducible refine Ok.is_in ?_ | with_reducible refine Ok.is_tn ?_ | with_reducible refine Ok.is_bn ?_ | with_reducible refine Ok.is_sn ?_ | with_reducible refine Ok.nis_in ?_ | with_reducible refine Ok.nis_tn ?_ | with_reducible refine Ok.nis_bn ?_ | with_reducible refine Ok.nis_sn ?_ | with_reducible refine OkS.lcons ?_ | with_reducible refine OkS.lnil ?_ | with_reducible refine Ok.icons ?_ | with_reducible refine Ok.inil ?_ | with_reducible refine Ok.is_bb ?_ | with_reducible refine Ok.nis_bb ?_ | with_reducible refine Ok.nis_nn ?_ | with_reducible refine Ok.pcons ?_ | with_reducible refine Ok.pnil ?_ | with_reducible refine Ok.dctK ?_ | with_reducible refine Ok.tgDic ?_ | with_reducible refine Ok.fld ?_ | with_reducible refine Ok.tgAtt ?_ | with_reducible refine Ok.makO ?_ | ((with_reducible refine Ok.isi_tup (p := true) ?_ ?_); decide +kernel) | ((with_reducible refine Ok.isi_tup (p := false) ?_ ?_); decide +kernel) | ((with_reducible refine Ok.isi_int (p := true) ?_ ?_); decide +kernel) | ((with_reducible refine Ok.isi_int (p := false) ?_ ?_); decide +kernel) | ((with_reducible refine Ok.isi_str (p := true) ?_ ?_); decide +kernel) | ((with_reducible refine Ok.isi_str (p := false) ?_ ?_); decide +kernel) | ((with_reducible refine Ok.isi_lst (p := true) ?_ ?_); decide +kernel) | ((with_reducible refine Ok.isi_lst (p := false) ?_ ?_); decide +kernel) | ((with_reducible refine Ok.isi_bl (p := true) ?_ ?_); decide +kernel) | ((with_reducible refine Ok.isi_bl (p := false) ?_ ?_); decide +kernel) | ((with_reducible refine Ok.isi_non (p := true) ?_ ?_); decide +kernel) | ((with_reducible refine Ok.isi_non (p := false) ?_ ?_); decide +kernel) | ((with_reducible refine Ok.isi_ctu (p := true) ?_ ?_); decide +kernel) | ((with_reducible refine Ok.isi_ctu (p := false) ?_ ?_); decide +kernel) | ((with_reducible refine Ok.isi_emp (p := true) ?_ ?_); decide +kernel) | ((with_reducible refine Ok.isi_emp (p := false) ?_ ?_); decide +kernel) | (with_reducible refine Ok.disp ?_)))
theorem e_constant : K09.F_constant = Lb.F_constant := (rfl)
theorem e_plus : K09.F_plus = Lb.F_plus := (rfl)
theorem e_minus : K09.F_minus = Lb.F_minus := (rfl)
theorem e_times : K09.F_times = Lb.F_times := (rfl)
theorem e_unknown : K09.F_unknown = Lb.F_unknown := (rfl)
theorem e_x_number : K09.F_x_number = Lb.F_x_number := (rfl)
theorem e_x_is_poly : K09.F_x_is_poly = Lb.F_x_is_poly := (rfl)
/-- a polynomial of at most so many pairs, so great factors, so great powers -/
structure Bd (m len : Nat) (b : Nat) (g : Int) (p : Pol) : Prop where
  cn : Pl.Cn m p
  len : p.length ≤ len
  nm : Pl.nm p ≤ b
  dg : Pl.Dg g p
section
variable {S : Store} {QD : D → Store → Prop} {QS : Fl → DL.Frame → Store → Prop} {n m mm : Nat} {p q : Pol}
theorem Bd.pow {len b : Nat} {g : Int} (h : Bd mm len b g p) (hb : b < 2 ^ 300) (hm : mm ≤ 1000) : ∀ x ∈ p, x.2.natAbs < 2 ^ 300 ∧ x.1.length ≤ 1000 := fun x hx => by
  have h1 := Pl.nm_mem hx
  have h2 := h.nm
  exact ⟨by omega, by rw [h.cn.len x hx]; exact hm⟩
theorem Bd.plus {l l' b b' : Nat} {g : Int} (h : Bd mm l b g p) (h' : Bd mm l' b' g q) : Bd mm (l + l') (b + b') g (Pl.plus p q) := by
  refine ⟨Pl.cn_plus h.cn h'.cn, Nat.le_trans (Pl.len_plus p q) (by have := h.len; have := h'.len; omega), Nat.le_trans (Pl.nm_plus h.cn.nd) (by have := h.nm; have := h'.nm; omega), Pl.dg_plus h.dg h'.dg⟩
theorem Bd.minus {l l' b b' : Nat} {g : Int} (h : Bd mm l b g p) (h' : Bd mm l' b' g q) : Bd mm (l + l') (b + b') g (Pl.minus p q) := by
  refine ⟨Pl.cn_minus h.cn h'.cn, Nat.le_trans (Pl.len_minus p q) (by have := h.len; have := h'.len; omega), Nat.le_trans (Pl.nm_minus h.cn.nd) (by have := h.nm; have := h'.nm; omega), Pl.dg_minus h.dg h'.dg⟩
theorem Bd.times {l l' b b' : Nat} {g g' : Int} (h : Bd mm l b g p) (h' : Bd mm l' b' g' q) : Bd mm (l * l') (b * b') (g + g') (Pl.times p q) :=
  ⟨Pl.cn_times h.cn h'.cn, Nat.le_trans (Pl.len_times p q) (Nat.mul_le_mul h.len h'.len), Nat.le_trans (Pl.nm_times p q) (Nat.mul_le_mul h.nm h'.nm), Pl.dg_times h.dg h'.dg⟩
theorem Bd.mono {l l' b b' : Nat} {g g' : Int} (h : Bd mm l b g p) (h1 : l ≤ l') (h2 : b ≤ b') (h3 : g ≤ g') : Bd mm l' b' g' p := ⟨h.cn, Nat.le_trans h.len h1, Nat.le_trans h.nm h2, h.dg.mono h3⟩
theorem Bd.unk {j : Nat} : Bd mm 1 1 1 (Pl.unk mm j) := ⟨Pl.cn_unk mm j, Nat.le_refl _, Nat.le_refl _, Pl.dg_unk mm j⟩
theorem Bd.const {c : Int} : Bd mm 1 c.natAbs 0 (Pl.const mm c) := ⟨Pl.cn_const mm c, by unfold Pl.const; split <;> simp, by rw [Pl.nm_const]; exact Nat.le_refl _, Pl.dg_const mm c⟩
theorem poly_in {w : Int} (hw : w = (mm : Nat)) (hm : 2 ≤ mm ∧ mm ≤ 8) {v2 v3 : Option D} {N : Nat} (hN : N ≤ 10 ^ 40) : ∀ (r i : Nat) {p : Pol} {S : Store} {q : Nat} {v5 : Option D}, Bd mm 1 N i p → Dk n m q S → r ≤ q →
    (∀ p' v5 S', Bd mm 1 N ((i + r : Nat) : Int) p' → Dk n m (q - r) S' → Keep n m S S' → QS .nx [some (.ob n), some (.int w), v2, v3, some (Pl.d p'), v5] S') →
    OkS (loopL (tgName 5) L_x_poly_2 ((List.range' i r).map fun j => .int (j : Nat)) [some (.ob n), some (.int w), v2, v3, some (Pl.d p), v5] S) QS
  | 0, i, p, S, q, v5, hp, dk, hq, h => OkS.lnil (h p v5 S (by simpa using hp) (by simpa using dk) Keep.refl)
  | r + 1, i, p, S, q, v5, hp, dk, hq, h => by
    rw [List.range'_succ, List.map_cons]
    refine OkS.lcons ?_
    unfold L_x_poly_2
    simp only [e_times, e_unknown]
    and_intros
    refine Ok.draw dk (by omega) (by omega) (by omega) ?_
    intro z S1 z0 z1 dk1 k1
    and_intros
    refine Lb.unknownI hw z0 (show mm ≤ 1000 by omega) ?_
    and_intros
    have p2 : N < 2 ^ 300 := Nat.lt_of_le_of_lt hN (by decide)
    have e300 : (1 : Nat) < 2 ^ 300 := by decide
    refine Lb.times_ok (A := 300) (B := 300) (Lb.PD.d p) (Lb.PD.d _) (by decide) (by decide) (by decide) (hp.pow p2 (by omega)) (fun x hx => (Bd.unk.pow e300 (by omega) x hx).1) (by have := hp.len; have := (Bd.unk (mm := mm) (j := z.toNat)).len; exact Nat.le_trans (Nat.mul_le_mul hp.len this) (by decide)) fun T ex => ?_
    and_intros
    have b := (hp.times (Bd.unk (j := z.toNat))).mono (l' := 1) (b' := N) (g' := ((i + 1 : Nat) : Int)) (by omega) (by omega) (by omega)
    refine poly_in hw hm hN r (i + 1) b (dk1.ext ex) (by omega) fun p' v5 S' hb dk' k' => ?_
    refine h p' v5 S' (by have e : i + (r + 1) = i + 1 + r := by omega
                          rw [e]; exact hb) (dk'.mono (by omega)) ((k1.trans ex.keep).trans k')
theorem poly_out {w : Int} (hw : w = (mm : Nat)) (hm : 2 ≤ mm ∧ mm ≤ 8) : ∀ (r i : Nat) {p : Pol} {S : Store} {q : Nat} {v3 v4 v5 : Option D}, Bd mm i (i * 10 ^ 40) 3 p → i + r ≤ 5 → Dk n m q S → 8 * r ≤ q →
    (∀ p' v3 v4 v5 S', Bd mm (i + r) ((i + r) * 10 ^ 40) 3 p' → Dk n m (q - 8 * r) S' → Keep n m S S' → QS .nx [some (.ob n), some (.int w), some (Pl.d p'), v3, v4, v5] S') →
    OkS (loopL (tgName 3) L_x_poly_1 ((List.range' i r).map fun j => .int (j : Nat)) [some (.ob n), some (.int w), some (Pl.d p), v3, v4, v5] S) QS
  | 0, i, p, S, q, v3, v4, v5, hp, hr, dk, hq, h => OkS.lnil (h p v3 v4 v5 S (by simpa using hp) (by simpa using dk) Keep.refl)
  | r + 1, i, p, S, q, v3, v4, v5, hp, hr, dk, hq, h => by
    rw [List.range'_succ, List.map_cons]
    refine OkS.lcons ?_
    unfold L_x_poly_1
    simp only [e_plus, e_constant, e_x_number]
    and_intros
    refine Ok.number dk (by omega) ?_
    intro c S1 hc dk1 k1
    and_intros
    refine Ok.one dk1 (by omega) (.inl rfl) (by simp) (by simp) ?_
    intro y S2 hy dk2 k2
    have hy2 : ∃ c2 : Int, y = .int c2 ∧ c2.natAbs ≤ 10 ^ 40 := by
      simp only [List.mem_cons, List.not_mem_nil, or_false] at hy
      rcases hy with rfl | rfl | rfl | rfl
      · exact ⟨_, rfl, by decide⟩
      · exact ⟨_, rfl, by decide⟩
      · exact ⟨_, rfl, by decide⟩
      · exact ⟨_, rfl, by omega⟩
    have hc2 := hy2.choose_spec
    generalize hy2.choose = c2 at hc2
    rw [hc2.1]
    and_intros
    refine Lb.constantI hw (show mm ≤ 1000 by omega) ?_
    and_intros
    refine Ok.draw dk2 (by omega) (by decide) (by decide) ?_
    intro z S3 z0 z1 dk3 k3
    and_intros
    rw [Lb.rngL0]
    refine poly_in (N := 10 ^ 40) hw hm (Nat.le_refl _) z.toNat 0 ((Bd.const (mm := mm) (c := c2)).mono (Nat.le_refl _) hc2.2 (by decide)) dk3 (by omega) fun p' v5 S4 hb dk4 k4 => ?_
    and_intros
    have bp := hp.plus (hb.mono (g' := 3) (Nat.le_refl _) (Nat.le_refl _) (by omega))
    refine Lb.plus_ok hp.cn.nd (by have := hp.len; have := hb.len; omega) (Lb.PD.d _) fun T ex => ?_
    and_intros
    have e0 : i * 10 ^ 40 + 10 ^ 40 = (i + 1) * 10 ^ 40 := by rw [Nat.succ_mul]
    rw [e0] at bp
    refine poly_out hw hm r (i + 1) bp (by omega) (dk4.ext ex) (by omega) fun p'' v3 v4 v5 S' hb' dk' k' => ?_
    have e : i + (r + 1) = i + 1 + r := by omega
    refine h p'' v3 v4 v5 S' (by rw [e]; exact hb') (dk'.mono (by omega)) ?_
    exact ((((k1.trans k2).trans k3).trans k4).trans ex.keep).trans k'
theorem poly_ok {w : Int} (hw : w = (mm : Nat)) (hm : 2 ≤ mm ∧ mm ≤ 8) {qq : Nat} (dk : Dk n m qq S) (hq : 41 ≤ qq) (h : ∀ p S', Bd mm 5 (5 * 10 ^ 40) 3 p → Dk n m (qq - 41) S' → Keep n m S S' → QD (Pl.d p) S') : Ok (F_x_poly [.ob n, .int w] S) QD := by
  with_reducible refine Ok.def_ ?_
  simp only [frame0, List.map_cons, List.map_nil, List.length_cons, List.length_nil, Nat.reduceAdd, Nat.reduceSub, Nat.zero_add, List.reduceReplicate, List.cons_append, List.nil_append]
  unfold B_x_poly
  and_intros
  simp only [e_constant]
  refine Lb.constantI hw (show mm ≤ 1000 by omega) ?_
  and_intros
  refine Ok.draw dk (by omega) (by decide) (by decide) ?_
  intro z S1 z0 z1 dk1 k1
  and_intros
  rw [Lb.rngL0]
  have b0 : Bd mm 0 (0 * 10 ^ 40) 3 (Pl.const mm 0) := ⟨Pl.cn_const mm 0, by simp [Pl.const], by simp [Pl.const, Pl.nm], (Pl.dg_const mm 0).mono (by decide)⟩
  refine poly_out hw hm z.toNat 0 b0 (by omega) dk1 (by omega) fun p' v3 v4 v5 S' hb dk' k' => ?_
  and_intros
  refine h p' S' (hb.mono (by omega) (Nat.mul_le_mul_right _ (by omega)) (Int.le_refl _)) (dk'.mono (by omega)) (k1.trans k')
end
end K09
namespace DL
open PySem PySem.Spec PyProof.Rows L2
local macro_rules | `(tactic| and_intros) => `(tactic| repeat (first | ((with_reducible refine Ok.tgT ?_ ?_); (exact rfl)) | ((with_reducible refine Ok.tgQt ?_ ?_); (exact rfl)) | ((with_reducible refine Ok.tgQl ?_ ?_); (exact rfl)) | with_reducible refine Ok.tupP ?_ | with_reducible refine Ok.tupleP ?_ | ((with_reducible refine Ok.isi_ptu (p := true) ?_ ?_); decide +kernel) | ((with_reducible refine Ok.isi_ptu (p := false) ?_ ?_); decide +kernel) | with_reducible refine ItQ.ptu ?_ | with_reducible refine SrcQ.ptu ?_ | with_reducible refine Ok.len_p ?_ | with_reducible refine Ok.sli_tail ?_ | ((with_reducible refine Ok.var ?_); refine ⟨_, rfl, ?_⟩) | ((with_reducible refine Fr.go ?_); intro fr_ e_; simp only [List.set_cons_zero, List.set_cons_succ, setAll, wipeF] at e_; subst e_) | with_reducible refine Ok.bin ?_ | with_reducible refine Ok.calp ?_ | with_reducible refine Ok.cal ?_ | with_reducible refine Ok.cst ?_ | with_reducible refine Ok.acons ?_ | with_reducible refine Ok.anil ?_ | with_reducible refine Ok.un ?_ | with_reducible refine Ok.tb ?_ | with_reducible refine Ok.tsb ?_ | with_reducible refine OkS.seq ?_ | with_reducible refine OkS.asg ?_ | with_reducible refine Then.nx ?_ | with_reducible refine Then.rt ?_ | with_reducible refine OkS.ifS ?_ | with_reducible refine Ok.notF ?_ | with_reducible refine Ok.andF ?_ | with_reducible refine Ok.orF ?_ | with_reducible refine Ok.ite ?_ | with_reducible refine Br.t ?_ | with_reducible refine Br.f ?_ | with_reducible refine Br.not ?_ | ((with_reducible refine OkS.aug ?_); refine ⟨_, rfl, ?_⟩) | ((with_reducible refine Ok.ix_t ?_); refine ⟨_, rfl, ?_⟩) | ((with_reducible refine Ok.ix_l ?_); refine ⟨_, rfl, ?_⟩) | ((with_reducible refine Ok.tgT ?_ ?_); exact rfl) | with_reducible refine Ok.tup ?_ | with_reducible refine Ok.lst ?_ | with_reducible refine Ok.lstO ?_ | with_reducible refine Ok.tst ?_ | with_reducible refine Ok.tru_bl ?_ | with_reducible refine Ok.tru_non ?_ | with_reducible refine Ok.tru_tup ?_ | with_reducible refine Ok.tru_lst ?_ | with_reducible refine Ok.tru_int ?_ | with_reducible refine Ok.boolF ?_ | with_reducible refine Ok.andV ?_ | with_reducible refine Ok.orV ?_ | with_reducible refine Ok.notV ?_ | with_reducible refine Ok.yes ?_ | with_reducible refine Ok.prtN ?_ | with_reducible refine Ok.prtS ?_ | with_reducible refine Ok.sli ?_ | with_reducible refine Ok.chF ?_ | with_reducible refine Ok.exi ?_ | with_reducible refine Ok.exb ?_ | with_reducible refine Ok.add_ii ?_ | with_reducible refine Ok.sub_ii ?_ | with_reducible refine Ok.neg_i ?_ | with_reducible refine Ok.lt_ii ?_ | with_reducible refine Ok.le_ii ?_ | with_reducible refine Ok.gt_ii ?_ | with_reducible refine Ok.ge_ii ?_ | with_reducible refine Ok.eq_ii ?_ | with_reducible refine Ok.ne_ii ?_ | with_reducible refine Ok.eq_ss ?_ | with_reducible refine Ok.ne_ss ?_ | with_reducible refine Ok.in_ss ?_ | with_reducible refine Ok.nin_ss ?_ | with_reducible refine Ok.is_nn ?_ | with_reducible refine Ok.int_i ?_ | with_reducible refine Ok.int_b ?_ | with_reducible refine Ok.str_s ?_ | with_reducible refine Ok.max_ii ?_ | with_reducible refine Ok.min_ii ?_ | with_reducible refine Ok.len_t ?_ | with_reducible refine Ok.len_l ?_ | with_reducible refine Ok.tup_t ?_ | with_reducible refine Ok.tup_l ?_ | with_reducible refine Ok.lst_t ?_ | with_reducible refine Ok.lst_l ?_ | with_reducible refine Ok.sli_t ?_ | with_reducible refine Ok.sli_l ?_ | with_reducible refine OkS.ret ?_ | with_reducible refine OkS.retN ?_ | with_reducible refine OkS.expr ?_ | with_reducible refine OkS.nx ?_ | with_reducible refine OkS.bk ?_ | with_reducible refine OkS.ct ?_ | with_reducible refine Then.bk ?_ | with_reducible refine Then.ct ?_ | with_reducible refine Rt.rt ?_ | with_reducible refine Rt.nx ?_ | with_reducible refine Lp.nx ?_ | with_reducible refine Lp.ct ?_ | with_reducible refine Lp.bk ?_ | with_reducible refine Lp.rt ?_ | with_reducible refine OkS.asgG ?_ | with_reducible refine OkS.par ?_ | with_reducible refine Ok.iadd_ii ?_ | with_reducible refine Ok.isub_ii ?_ | with_reducible refine Ok.tgN ?_ | with_reducible refine Ok.tgA0 ?_ | with_reducible refine Ok.tgA ?_ | with_reducible refine Ok.tgSub ?_ | with_reducible refine Ok.rngF ?_ | with_reducible refine Ok.cmpD ?_ | with_reducible refine Ok.cmpO ?_ | with_reducible refine Ok.ret ?_ | with_reducible refine Ok.ok ?_ | with_reducible refine Ok.newO ?_ | with_reducible refine Ok.bnd ?_ | with_reducible refine OkS.fore ?_ | with_reducible refine Ok.cmpe ?_ | with_reducible refine Ok.itT ?_ | with_reducible refine ItQ.tup ?_ | with_reducible refine ItQ.lst ?_ | with_reducible refine ItQ.ctu ?_ | with_reducible refine SrcQ.con ?_ | with_reducible refine SrcQ.tup ?_ | with_reducible refine SrcQ.lst ?_ | with_reducible refine SrcQ.ctu ?_ | ((with_reducible refine Ok.mod_ii ?_ ?_); (first | decide | (simp; done) | (simp; omega))) | ((with_reducible refine Ok.add_tt ?_ ?_); (first | decide | (simp; done) | (simp; omega))) | ((with_reducible refine Ok.add_ll ?_ ?_); (first | decide | (simp; done) | (simp; omega))) | ((with_reducible refine Ok.add_ss ?_ ?_); (first | decide | (simp; done) | (simp; omega))) | ((with_reducible refine Ok.rng1 ?_ ?_); (first | decide | omega | (simp; omega))) | ((with_reducible refine Br.dt ?_ ?_); (first | assumption | exact rfl | omega | decide +kernel)) | ((with_reducible refine Br.df ?_ ?_); (first | assumption | omega | decide +kernel)) | ((with_reducible refine Br.tt ?_ ?_); (first | assumption | decide +kernel)) | ((with_reducible refine Br.ff ?_ ?_); (first | assumption | decide +kernel)) | with_reducible refine Ok.is_in ?_ | with_reducible refine Ok.is_tn ?_ | with_reducible refine Ok.is_bn ?_ | with_reducible refine Ok.is_sn ?_ | with_reducible refine Ok.nis_in ?_ | with_reducible refine Ok.nis_tn ?_ | with_reducible refine Ok.nis_bn ?_ | with_reducible refine Ok.nis_sn ?_ | with_reducible refine OkS.lcons ?_ | with_reducible refine OkS.lnil ?_ | with_reducible refine Ok.icons ?_ | with_reducible refine Ok.inil ?_ | with_reducible refine Ok.is_bb ?_ | with_reducible refine Ok.nis_bb ?_ | with_reducible refine Ok.nis_nn ?_ | with_reducible refine Ok.pcons ?_ | with_reducible refine Ok.pnil ?_ | with_reducible refine Ok.dctK ?_ | with_reducible refine Ok.tgDic ?_ | with_reducible refine Ok.fld ?_ | with_reducible refine Ok.tgAtt ?_ | with_reducible refine Ok.makO ?_ | ((with_reducible refine Ok.isi_tup (p := true) ?_ ?_); decide +kernel) | ((with_reducible refine Ok.isi_tup (p := false) ?_ ?_); decide +kernel) | ((with_reducible refine Ok.isi_int (p := true) ?_ ?_); decide +kernel) | ((with_reducible refine Ok.isi_int (p := false) ?_ ?_); decide +kernel) | ((with_reducible refine Ok.isi_str (p := true) ?_ ?_); decide +kernel) | ((with_reducible refine Ok.isi_str (p := false) ?_ ?_); decide +kernel) | ((with_reducible refine Ok.isi_lst (p := true) ?_ ?_); decide +kernel) | ((with_reducible refine Ok.isi_lst (p := false) ?_ ?_); decide +kernel) | ((with_reducible refine Ok.isi_bl (p := true) ?_ ?_); decide +kernel) | ((with_reducible refine Ok.isi_bl (p := false) ?_ ?_); decide +kernel) | ((with_reducible refine Ok.isi_non (p := true) ?_ ?_); decide +kernel) | ((with_reducible refine Ok.isi_non (p := false) ?_ ?_); decide +kernel) | ((with_reducible refine Ok.isi_ctu (p := true) ?_ ?_); decide +kernel) | ((with_reducible refine Ok.isi_ctu (p := false) ?_ ?_); decide +kernel) | ((with_reducible refine Ok.isi_emp (p := true) ?_ ?_); decide +kernel) | ((with_reducible refine Ok.isi_emp (p := false) ?_ ?_); decide +kernel) | (with_reducible refine Ok.disp ?_)))
namespace Pl
/-! ### polynomials shown and compared -/
theorem _root_.DL.Rz.ptu {a b : Nat} {l : List D} (h : Rz a b (.tup l)) : Rz a b (.ptu l) := by
  obtain ⟨p, h1, h2⟩ := h
  exact ⟨p, by rw [show py (.ptu l) = py (.tup l) by simp only [py]]; exact h1, h2⟩
theorem rz_pr {x : Pw × Int} {m k g : Nat} (hm : x.1.length = m) (hk : x.2.natAbs < 10 ^ k) (hg : ∀ i ∈ x.1, i.natAbs < 10 ^ g) (h0 : 0 < k) (h1 : k ≤ 480) (g0 : 0 < g) (g1 : g ≤ 480) : Rz 2 (2 * (m * (g + 3) + k + 6) + 3) (prD x) := by
  have a : Rz 1 (m * (g + 1 + 2) + 3) (intsD x.1) := by
    have := Rz.tup (dep := 0) (len := g + 1) (l := x.1.map .int) (fun d hd => by
      obtain ⟨i, hi, rfl⟩ := List.mem_map.mp hd
      exact Rz.int10 g g0 (hg i hi) g1)
    rw [List.length_map, hm] at this
    exact this
  have b : Rz 0 (k + 1) (.int x.2) := Rz.int10 k h0 hk h1
  have := Rz.tup (dep := 1) (len := m * (g + 3) + k + 4) (l := [intsD x.1, .int x.2]) (fun d hd => by
    simp only [List.mem_cons, List.not_mem_nil, or_false] at hd
    rcases hd with rfl | rfl
    · exact a.mono (Nat.le_refl _) (by rw [show g + 1 + 2 = g + 3 from rfl]; omega)
    · exact b.mono (by omega) (by omega))
  exact this.mono (Nat.le_refl _) (by simp only [List.length_cons, List.length_nil]; omega)
theorem rz_d {p : Pol} {m k g : Nat} (hp : Cn m p) (hk : nm p < 10 ^ k) (hg : ∀ x ∈ p, ∀ i ∈ x.1, i.natAbs < 10 ^ g) (h0 : 0 < k) (h1 : k ≤ 480) (g0 : 0 < g) (g1 : g ≤ 480) : Rz 3 (p.length * (2 * (m * (g + 3) + k + 6) + 5) + 3) (d p) := by
  have := Rz.tup (dep := 2) (len := 2 * (m * (g + 3) + k + 6) + 3) (l := p.map prD) (fun d hd => by
    obtain ⟨x, hx, rfl⟩ := List.mem_map.mp hd
    exact rz_pr (hp.len x hx) (Nat.lt_of_le_of_lt (nm_mem hx) hk) (hg x hx) h0 h1 g0 g1)
  rw [List.length_map] at this
  exact this.ptu
theorem pd_d (p : Pol) : pd (d p) = .tuple (p.map fun x => .tuple [.tuple (x.1.map .int), .int x.2]) := by
  have e : ∀ p : Pol, (p.map fun x => pyd (prD x)) = p.map fun x => PyData.tuple [.tuple (x.1.map .int), .int x.2] := fun p => List.map_congr_left fun x _ => pyd_prD x
  unfold pd
  show ((pys (p.map prD)).map PyData.tuple).getD .none = _
  rw [pys_pr, e]
  rfl
theorem eqv_prs : ∀ p q : Pol, PyData.eqvAll (p.map fun x => .tuple [.tuple (x.1.map .int), .int x.2]) (q.map fun x => .tuple [.tuple (x.1.map .int), .int x.2]) = decide (p = q)
  | [], [] => by simp [PyData.eqvAll]
  | [], _ :: _ => by simp [PyData.eqvAll]
  | _ :: _, [] => by simp [PyData.eqvAll]
  | (k, c) :: p, (j, e) :: q => by
    have ih := eqv_prs p q
    have e1 : PyData.eqv (.tuple (k.map PyData.int)) (.tuple (j.map PyData.int)) = decide (k = j) := eqv_tints k j
    have e2 : PyData.eqv (.int c) (.int e) = decide (c = e) := by rw [PyData.eqv, beq_dec]
    rw [List.map_cons, List.map_cons, PyData.eqvAll, ih, PyData.eqv, PyData.eqvAll, PyData.eqvAll, PyData.eqvAll, e1, e2]
    simp only [Bool.and_true, List.cons.injEq, Prod.mk.injEq, Bool.decide_and]
theorem eqb_d (p q : Pol) : eqb (d p) (d q) = decide (p = q) := by
  unfold eqb
  rw [pd_d, pd_d, PyData.eqv]
  exact eqv_prs p q
/-! ### the rules -/
section
variable {m : Nat} {a b c : Pol}
theorem plus_comm (ha : Cn m a) (hb : Cn m b) : plus b a = plus a b := (cn_plus hb ha).uniq (cn_plus ha hb) fun f => by rw [lin_plus ha.nd, lin_plus hb.nd, Int.add_comm]
theorem times_comm (ha : Cn m a) (hb : Cn m b) : times b a = times a b := (cn_times hb ha).uniq (cn_times ha hb) fun f => by
  rw [lin_times, lin_times, lin_comm]
  congr 1
  funext x
  congr 1
  funext y
  rw [sumK_comm]
theorem plus_assoc (ha : Cn m a) (hb : Cn m b) (hc : Cn m c) : plus a (plus b c) = plus (plus a b) c := (cn_plus ha (cn_plus hb hc)).uniq (cn_plus (cn_plus ha hb) hc) fun f => by
  rw [lin_plus ha.nd, lin_plus hb.nd, lin_plus (cn_plus ha hb).nd, lin_plus ha.nd, Int.add_assoc]
theorem times_plus (ha : Cn m a) (hb : Cn m b) (hc : Cn m c) : plus (times a b) (times a c) = times a (plus b c) := (cn_plus (cn_times ha hb) (cn_times ha hc)).uniq (cn_times ha (cn_plus hb hc)) fun f => by
  rw [lin_plus (cn_times ha hb).nd, lin_times, lin_times, lin_times, ← lin_add]
  congr 1
  funext x
  rw [lin_plus hb.nd]
theorem minus_self (ha : Cn m a) : minus a a = [] := (cn_minus ha ha).uniq (cn_nil (m := m)) fun f => by rw [lin_minus ha.nd]; simp [lin]
theorem minus_plus (ha : Cn m a) (hb : Cn m b) : plus (minus a b) b = a := (cn_plus (cn_minus ha hb) hb).uniq ha fun f => by rw [lin_plus (cn_minus ha hb).nd, lin_minus ha.nd]; omega
theorem times_one (ha : Cn m a) : times a (const m 1) = a := (cn_times ha (cn_const m 1)).uniq ha fun f => by
  rw [lin_times]
  refine lin_congr fun x hx => ?_
  rw [lin_const, Int.one_mul, sumK_zero (ha.len x hx)]
theorem times_nil (ha : Cn m a) : times a [] = [] := (cn_times ha (cn_nil (m := m))).uniq (cn_nil (m := m)) fun f => by rw [lin_times]; exact lin_zero a
theorem minus_eq (ha : Cn m a) (hb : Cn m b) : plus a (times (const m (-1)) b) = minus a b := (cn_plus ha (cn_times (cn_const m _) hb)).uniq (cn_minus ha hb) fun f => by
  rw [lin_plus ha.nd, lin_minus ha.nd, lin_times, lin_const]
  have e : lin b (fun x => f (sumK (List.replicate m 0) x)) = lin b f := lin_congr fun x hx => by rw [sumK_comm, sumK_zero (hb.len x hx)]
  rw [e]
  omega
theorem nil_plus (ha : Cn m a) : plus [] a = a := (cn_plus (cn_nil (m := m)) ha).uniq ha fun f => by rw [lin_plus (by simp [Nd])]; simp [lin]
theorem minus_nil (ha : Cn m a) : minus a [] = a := (cn_minus ha (cn_nil (m := m))).uniq ha fun f => by rw [lin_minus ha.nd]; simp [lin]
theorem squares (ha : Cn m a) (hb : Cn m b) : minus (times a a) (times b b) = times (plus a b) (minus a b) := (cn_minus (cn_times ha ha) (cn_times hb hb)).uniq (cn_times (cn_plus ha hb) (cn_minus ha hb)) fun f => by
  rw [lin_minus (cn_times ha ha).nd, lin_times, lin_times, lin_times, lin_plus ha.nd]
  have e : ∀ x : Pw, lin (minus a b) (fun y => f (sumK x y)) = lin a (fun y => f (sumK x y)) - lin b (fun y => f (sumK x y)) := fun x => lin_minus ha.nd _
  have e2 : ∀ p : Pol, lin p (fun x => lin (minus a b) fun y => f (sumK x y)) = lin p (fun x => lin a fun y => f (sumK x y)) - lin p (fun x => lin b fun y => f (sumK x y)) := fun p => by
    rw [show (fun x => lin (minus a b) fun y => f (sumK x y)) = fun x => (lin a fun y => f (sumK x y)) + (- lin b fun y => f (sumK x y)) from funext fun x => by rw [e]; omega, lin_add, lin_neg]
    omega
  rw [e2, e2]
  have e3 : lin b (fun x => lin a fun y => f (sumK x y)) = lin a (fun x => lin b fun y => f (sumK x y)) := by
    rw [lin_comm]
    congr 1
    funext x
    congr 1
    funext y
    rw [sumK_comm]
  rw [e3]
  omega
theorem minus_iff (ha : Cn m a) (hb : Cn m b) : minus a b = [] ↔ a = b := by
  constructor
  · intro h
    refine ha.uniq hb fun f => ?_
    have := lin_minus (q := b) ha.nd f
    rw [h] at this
    simp only [lin] at this
    omega
  · rintro rfl
    exact minus_self ha
end
end Pl
end DL
namespace DL
open PySem PySem.Spec PyProof.Rows L2
/-! ### a comprehension over a list that stays an object -/
section
variable {S : Store} {fr : Frame} {QL : List D → Store → Prop} {g : D → Frame → M Frame} {t : Frame → M Bool} {elt : Frame → M D} {xs r : List D} {x : D} {src : Src} {k ix : Nat} {vs : List Nat}
theorem srcOb (e : S[k]? = some (some (.lst xs))) : srcSeq (.ob k) S = some xs := by
  show lstL S (.ob k) = some xs
  unfold lstL
  simp only [e]
  rfl
theorem Ok.cnil (e : src S = some xs) (h : QL [] S) : Ok (cmpL src xs g t elt fr [] S) QL := by
  refine Ok.of (v := []) (S1 := S) ?_ h
  unfold cmpL
  exact if_pos e
theorem Ok.ccons (e : src S = some xs) (h : Ok (g x fr S) fun fr1 S1 => Ok (t fr1 S1) fun b S2 => Br b (Ok (elt fr1 S2) fun y S3 => Ok (cmpL src xs g t elt fr r S3) fun ys S4 => QL (y :: ys) S4) (Ok (cmpL src xs g t elt fr r S2) QL)) : Ok (cmpL src xs g t elt fr (x :: r) S) QL := by
  obtain ⟨fr1, S1, e1, h1⟩ := h.ex
  obtain ⟨b, S2, e2, h2⟩ := Ok.ex h1
  cases b with
  | true =>
    obtain ⟨y, S3, e3, h3⟩ := Ok.ex (show Ok (elt fr1 S2) _ from h2)
    obtain ⟨ys, S4, e4, h4⟩ := Ok.ex h3
    refine Ok.of (v := y :: ys) (S1 := S4) ?_ h4
    unfold cmpL
    simp only [if_pos e, e1, e2, e3, bnd_ok e4]
    rfl
  | false =>
    obtain ⟨ys, S4, e4, h4⟩ := Ok.ex (show Ok (cmpL src xs g t elt fr r S2) QL from h2)
    refine Ok.of (v := ys) (S1 := S4) ?_ h4
    unfold cmpL
    simp only [if_pos e, e1, e2, e4]
theorem Ok.cmpOb (hf : fr[ix]? = some (some (.ob k))) (e : S[k]? = some (some (.lst xs))) (hl : xs.length ≤ 1000000) (h : Ok (cmpL (srcSeq (.ob k)) xs g t elt (wipeF fr vs) xs S) QL) : Ok (DL.cmpF vs (itF (varF ix)) g t elt fr S) QL := by
  obtain ⟨ys, S1, e1, h1⟩ := h.ex
  refine Ok.of (v := ys) (S1 := S1) ?_ h1
  have e2 : itF (varF ix) fr S = .ok (srcSeq (.ob k)) S := by
    unfold itF
    rw [bnd_ok (show varF ix fr S = .ok (.ob k) S by unfold varF; rw [hf])]
    have : seqL S (.ob k) = some xs := srcOb e
    simp only [this]
  unfold DL.cmpF
  rw [bnd_ok e2]
  simp only [srcOb e]
  rw [if_pos (by rw [sizeLine_eq]; omega)]
  exact nox_ok e1
end
end DL
namespace K09
open PySem PySem.Spec PyProof.Rows L2 DL
/-- stop here: the list is an object -/
def Hold (P : Prop) : Prop := P
theorem holdS {f : DL.Frame → M Src} {g : D → DL.Frame → M DL.Frame} {t : DL.Frame → M Bool} {x elt : DL.Frame → M D} {a b c : SM} {fr : DL.Frame} {S : Store} {Q : Fl → DL.Frame → Store → Prop} (h : Hold (OkS (seqS (ifS (tbF (binF neD (cmpD [9, 10] f g t elt) x)) a b) c fr S) Q)) : OkS (seqS (ifS (tbF (binF neD (cmpD [9, 10] f g t elt) x)) a b) c fr S) Q := h
theorem tyR_lst {S : Store} {n : Nat} {l : List D} (h : S[n]? = some (some (.lst l))) : tyR S "list" (.ob n) = true := by
  unfold tyR
  simp only [h]
  rfl
local macro_rules | `(tactic| and_intros) => `(tactic| repeat (first | ((with_reducible refine Ok.tgT ?_ ?_); (exact rfl)) | ((with_reducible refine Ok.tgQt ?_ ?_); (exact rfl)) | ((with_reducible refine Ok.tgQl ?_ ?_); (exact rfl)) | with_reducible refine Ok.tupP ?_ | with_reducible refine Ok.tupleP ?_ | ((with_reducible refine Ok.isi_ptu (p := true) ?_ ?_); decide +kernel) | ((with_reducible refine Ok.isi_ptu (p := false) ?_ ?_); decide +kernel) | with_reducible refine ItQ.ptu ?_ | with_reducible refine SrcQ.ptu ?_ | with_reducible refine Ok.len_p ?_ | with_reducible refine Ok.sli_tail ?_ | ((with_reducible refine Ok.var ?_); refine ⟨_, rfl, ?_⟩) | ((with_reducible refine Fr.go ?_); intro fr_ e_; simp only [List.set_cons_zero, List.set_cons_succ, setAll, wipeF] at e_; subst e_) | with_reducible refine Ok.bin ?_ | with_reducible refine Ok.calp ?_ | with_reducible refine Ok.cal ?_ | with_reducible refine Ok.cst ?_ | with_reducible refine Ok.acons ?_ | with_reducible refine Ok.anil ?_ | with_reducible refine Ok.un ?_ | with_reducible refine Ok.tb ?_ | with_reducible refine Ok.tsb ?_ | with_reducible refine OkS.seq ?_ | with_reducible refine OkS.asg ?_ | with_reducible refine Then.nx ?_ | with_reducible refine Then.rt ?_ | with_reducible refine OkS.ifS ?_ | with_reducible refine Ok.notF ?_ | with_reducible refine Ok.andF ?_ | with_reducible refine Ok.orF ?_ | with_reducible refine Ok.ite ?_ | with_reducible refine Br.t ?_ | with_reducible refine Br.f ?_ | with_reducible refine Br.not ?_ | ((with_reducible refine OkS.aug ?_); refine ⟨_, rfl, ?_⟩) | ((with_reducible refine Ok.ix_t ?_); refine ⟨_, rfl, ?_⟩) | ((with_reducible refine Ok.ix_l ?_); refine ⟨_, rfl, ?_⟩) | ((with_reducible refine Ok.tgT ?_ ?_); exact rfl) | with_reducible refine Ok.tup ?_ | with_reducible refine Ok.lst ?_ | with_reducible refine Ok.lstO ?_ | with_reducible refine Ok.tst ?_ | with_reducible refine Ok.tru_bl ?_ | with_reducible refine Ok.tru_non ?_ | with_reducible refine Ok.tru_tup ?_ | with_reducible refine Ok.tru_lst ?_ | with_reducible refine Ok.tru_int ?_ | with_reducible refine Ok.boolF ?_ | with_reducible refine Ok.andV ?_ | with_reducible refine Ok.orV ?_ | with_reducible refine Ok.notV ?_ | with_reducible refine Ok.yes ?_ | with_reducible refine Ok.prtN ?_ | with_reducible refine Ok.prtS ?_ | with_reducible refine Ok.sli ?_ | with_reducible refine Ok.chF ?_ | with_reducible refine Ok.exi ?_ | with_reducible refine Ok.exb ?_ | with_reducible refine Ok.add_ii ?_ | with_reducible refine Ok.sub_ii ?_ | with_reducible refine Ok.neg_i ?_ | with_reducible refine Ok.lt_ii ?_ | with_reducible refine Ok.le_ii ?_ | with_reducible refine Ok.gt_ii ?_ | with_reducible refine Ok.ge_ii ?_ | with_reducible refine Ok.eq_ii ?_ | with_reducible refine Ok.ne_ii ?_ | with_reducible refine Ok.eq_ss ?_ | with_reducible refine Ok.ne_ss ?_ | with_reducible refine Ok.in_ss ?_ | with_reducible refine Ok.nin_ss ?_ | with_reducible refine Ok.is_nn ?_ | with_reducible refine Ok.int_i ?_ | with_reducible refine Ok.int_b ?_ | with_reducible refine Ok.str_s ?_ | with_reducible refine Ok.max_ii ?_ | with_reducible refine Ok.min_ii ?_ | with_reducible refine Ok.len_t ?_ | with_reducible refine Ok.len_l ?_ | with_reducible refine Ok.tup_t ?_ | with_reducible refine Ok.tup_l ?_ | with_reducible refine Ok.lst_t ?_ | with_reducible refine Ok.lst_l ?_ | with_reducible refine Ok.sli_t ?_ | with_reducible refine Ok.sli_l ?_ | with_reducible refine OkS.ret ?_ | with_reducible refine OkS.retN ?_ | with_reducible refine OkS.expr ?_ | with_reducible refine OkS.nx ?_ | with_reducible refine OkS.bk ?_ | with_reducible refine OkS.ct ?_ | with_reducible refine Then.bk ?_ | with_reducible refine Then.ct ?_ | with_reducible refine Rt.rt ?_ | with_reducible refine Rt.nx ?_ | with_reducible refine Lp.nx ?_ | with_reducible refine Lp.ct ?_ | with_reducible refine Lp.bk ?_ | with_reducible refine Lp.rt ?_ | with_reducible refine OkS.asgG ?_ | with_reducible refine OkS.par ?_ | with_reducible refine Ok.iadd_ii ?_ | with_reducible refine Ok.isub_ii ?_ | with_reducible refine Ok.tgN ?_ | with_reducible refine Ok.tgA0 ?_ | with_reducible refine Ok.tgA ?_ | with_reducible refine Ok.tgSub ?_ | with_reducible refine Ok.rngF ?_ | with_reducible refine Ok.cmpD ?_ | with_reducible refine Ok.cmpO ?_ | with_reducible refine Ok.ret ?_ | with_reducible refine Ok.ok ?_ | with_reducible refine Ok.newO ?_ | with_reducible refine Ok.bnd ?_ | with_reducible refine OkS.fore ?_ | with_reducible refine Ok.cmpe ?_ | with_reducible refine Ok.itT ?_ | with_reducible refine ItQ.tup ?_ | with_reducible refine ItQ.lst ?_ | with_reducible refine ItQ.ctu ?_ | with_reducible refine SrcQ.con ?_ | with_reducible refine SrcQ.tup ?_ | with_reducible refine SrcQ.lst ?_ | with_reducible refine SrcQ.ctu ?_ | ((with_reducible refine Ok.mod_ii ?_ ?_); (first | decide | (simp; done) | (simp; omega))) | ((with_reducible refine Ok.add_tt ?_ ?_); (first | decide | (simp; done) | (simp; omega))) | ((with_reducible refine Ok.add_ll ?_ ?_); (first | decide | (simp; done) | (simp; omega))) | ((with_reducible refine Ok.add_ss ?_ ?_); (first | decide | (simp; done) | (simp; omega))) | ((with_reducible refine Ok.rng1 ?_ ?_); (first | decide | omega | (simp; omega))) | ((with_reducible refine Br.dt ?_ ?_); (first | assumption | exact rfl | omega | decide +kernel)) | ((with_reducible refine Br.df ?_ ?_); (first | assumption | omega | decide +kernel)) | ((with_reducible refine Br.tt ?_ ?_); (first | assumption | decide +kernel)) | ((with_reducible refine Br.ff ?_ ?_); (first | assumption | decide +kernel)) | with_reducible refine Ok.is_in ?_ | with_reducible refine Ok.is_tn ?_ | with_reducible refine Ok.is_bn ?_ | with_reducible refine Ok.is_sn ?_ | with_reducible refine Ok.nis_in ?_ | with_reducible refine Ok.nis_tn ?_ | with_reducible refine Ok.nis_bn ?_ | with_reducible refine Ok.nis_sn ?_ | with_reducible refine OkS.lcons ?_ | with_reducible refine OkS.lnil ?_ | with_reducible refine Ok.icons ?_ | with_reducible refine Ok.inil ?_ | with_reducible refine Ok.is_bb ?_ | with_reducible refine Ok.nis_bb ?_ | with_reducible refine Ok.nis_nn ?_ | with_reducible refine Ok.pcons ?_ | with_reducible refine Ok.pnil ?_ | with_reducible refine Ok.dctK ?_ | with_reducible refine Ok.tgDic ?_ | with_reducible refine Ok.fld ?_ | with_reducible refine Ok.tgAtt ?_ | with_reducible refine Ok.makO ?_ | ((with_reducible refine Ok.isi_tup (p := true) ?_ ?_); decide +kernel) | ((with_reducible refine Ok.isi_tup (p := false) ?_ ?_); decide +kernel) | ((with_reducible refine Ok.isi_int (p := true) ?_ ?_); decide +kernel) | ((with_reducible refine Ok.isi_int (p := false) ?_ ?_); decide +kernel) | ((with_reducible refine Ok.isi_str (p := true) ?_ ?_); decide +kernel) | ((with_reducible refine Ok.isi_str (p := false) ?_ ?_); decide +kernel) | ((with_reducible refine Ok.isi_lst (p := true) ?_ ?_); decide +kernel) | ((with_reducible refine Ok.isi_lst (p := false) ?_ ?_); decide +kernel) | ((with_reducible refine Ok.isi_bl (p := true) ?_ ?_); decide +kernel) | ((with_reducible refine Ok.isi_bl (p := false) ?_ ?_); decide +kernel) | ((with_reducible refine Ok.isi_non (p := true) ?_ ?_); decide +kernel) | ((with_reducible refine Ok.isi_non (p := false) ?_ ?_); decide +kernel) | ((with_reducible refine Ok.isi_ctu (p := true) ?_ ?_); decide +kernel) | ((with_reducible refine Ok.isi_ctu (p := false) ?_ ?_); decide +kernel) | ((with_reducible refine Ok.isi_emp (p := true) ?_ ?_); decide +kernel) | ((with_reducible refine Ok.isi_emp (p := false) ?_ ?_); decide +kernel) | (with_reducible refine Ok.disp ?_)))
section
variable {S S0 : Store} {QD : D → Store → Prop} {QS : Fl → DL.Frame → Store → Prop} {QL : List D → Store → Prop} {n m mm : Nat} {p q : Pol}
theorem plusB {l l' b b' : Nat} {g : Int} (hx : Ext S0 S) (ha : Bd mm l b g p) (hb : Bd mm l' b' g q) (hl : l + l' ≤ 99999) (h : ∀ T, Ext S0 T → QD (Pl.d (Pl.plus p q)) T) : Ok (Lb.F_plus [Pl.d p, Pl.d q] S) QD :=
  Lb.plus_ok ha.cn.nd (by have := ha.len; have := hb.len; omega) (Lb.PD.d _) fun T ex => h T (hx.trans ex)
theorem minusB {l l' b b' : Nat} {g : Int} (hx : Ext S0 S) (ha : Bd mm l b g p) (hb : Bd mm l' b' g q) (hl : l + l' ≤ 1000) (h : ∀ T, Ext S0 T → QD (Pl.d (Pl.minus p q)) T) : Ok (Lb.F_minus [Pl.d p, Pl.d q] S) QD :=
  Lb.minus_ok ha.cn.nd (by have := ha.len; have := hb.len; omega) (Lb.PD.d _) fun T ex => h T (hx.trans ex)
theorem timesB {l l' b b' : Nat} {g g' : Int} (hx : Ext S0 S) (hm : mm ≤ 1000) (ha : Bd mm l b g p) (hb : Bd mm l' b' g' q) (h1 : b < 2 ^ 300) (h2 : b' < 2 ^ 300) (hl : l * l' ≤ 99999) (h : ∀ T, Ext S0 T → QD (Pl.d (Pl.times p q)) T) : Ok (Lb.F_times [Pl.d p, Pl.d q] S) QD :=
  Lb.times_ok (A := 300) (B := 300) (Lb.PD.d p) (Lb.PD.d _) (by decide) (by decide) (by decide) (ha.pow h1 hm) (fun x hx => (hb.pow h2 hm x hx).1) (Nat.le_trans (Nat.mul_le_mul ha.len hb.len) hl) fun T ex => h T (hx.trans ex)
/-- a polynomial that can be shown -/
def Sw (p : Pol) : Prop := Rz 3 200000 (Pl.d p)
theorem Bd.sw {l b : Nat} {g : Int} (h : Bd mm l b g p) (hm : mm ≤ 8) (hl : l ≤ 500) (hb : b < 10 ^ 100) (hg : g ≤ 99) : Sw p := by
  have := Pl.rz_d (k := 100) (g := 2) h.cn (Nat.lt_of_le_of_lt h.nm hb) (fun x hx i hi => by have h1 := h.cn.pos x hx i hi; have h2 := h.dg x hx i hi; omega) (by decide) (by decide) (by decide) (by decide)
  refine this.mono (Nat.le_refl _) ?_
  have e : p.length * (2 * (mm * (2 + 3) + 100 + 6) + 5) ≤ 500 * (2 * (8 * (2 + 3) + 100 + 6) + 5) := Nat.mul_le_mul (Nat.le_trans h.len hl) (by omega)
  omega
theorem same_it {v0 v1 v2 v3 v4 v5 v6 v7 v8 v9 v10 : Option D} {k : Nat} {L : List D} (e : S[k]? = some (some (.lst L))) : ∀ ps : List Pol, (∀ p ∈ ps, Sw p) → Ok (cmpL (srcSeq (.ob k)) L (tgSeq [tgName 9, tgName 10]) T_law_2 E_law_2 [v0, v1, v2, v3, v4, v5, v6, v7, v8, v9, v10] (ps.map fun p => .lst [Pl.d p, Pl.d p]) S) fun ys S' => ys = [] ∧ S = S'
  | [], _ => Ok.cnil (srcOb e) ⟨rfl, rfl⟩
  | p :: ps, h => by
    rw [List.map_cons]
    refine Ok.ccons (srcOb e) ?_
    unfold T_law_2
    have hp := h p (List.mem_cons_self ..)
    and_intros
    refine Ok.repr hp (by decide) (by decide) ?_
    and_intros
    refine Ok.repr hp (by decide) (by decide) ?_
    and_intros
    exact same_it e ps fun p hp => h p (List.mem_cons_of_mem _ hp)
theorem pairs_ok {v0 v1 v2 v3 v4 v5 v6 v8 v9 v10 : Option D} {k : Nat} {L : List D} {QL : List D → Store → Prop} (ps : List Pol) (e : S[k]? = some (some (.lst L))) (hL : L = ps.map fun p => .lst [Pl.d p, Pl.d p]) (hs : ∀ p ∈ ps, Sw p) (hl : ps.length ≤ 1000) (h : QL [] S) :
    Ok (cmpF [9, 10] (itF (varF 7)) (tgSeq [tgName 9, tgName 10]) T_law_2 E_law_2 [v0, v1, v2, v3, v4, v5, v6, some (.ob k), v8, v9, v10] S) QL := by
  subst hL
  refine Ok.cmpOb rfl e (by rw [List.length_map]; omega) ?_
  refine (same_it e ps hs).imp ?_
  rintro ys S' ⟨rfl, rfl⟩
  exact h
theorem poly_it {w : Int} (hw : w = (mm : Nat)) (hm : mm ≤ 8) {v0 v1 v2 v4 v5 v6 v7 v8 v9 v10 : Option D} : ∀ ps : List Pol, (∀ p ∈ ps, Pl.Cn mm p ∧ p.length ≤ 1000) → Ok (itL (tgName 9) T_law_3 E_law_3 [v0, v1, v2, some (.int w), v4, v5, v6, v7, v8, v9, v10] (ps.map Pl.d) S) fun ys S' => ys = [] ∧ S = S'
  | [], _ => ⟨rfl, rfl⟩
  | p :: ps, h => by
    rw [List.map_cons]
    refine Ok.icons ?_
    unfold T_law_3
    simp only [e_x_is_poly]
    have hp := h p (List.mem_cons_self ..)
    and_intros
    refine Lb.is_polyI hw hp.1 (by omega) hp.2 ?_
    and_intros
    exact poly_it hw hm ps fun p hp => h p (List.mem_cons_of_mem _ hp)
theorem addO_ok {S : Store} {k : Nat} {l m : List D} {QD : D → Store → Prop} (e : S[k]? = some (some (.lst l))) (z : l.length + m.length ≤ 1000000) (h : QD (.ob S.length) (S ++ [some (.lst (l ++ m))])) : Ok (addO (.ob k) (.lst m) S) QD := by
  refine Ok.of (v := .ob S.length) (S1 := S ++ [some (.lst (l ++ m))]) ?_ h
  unfold addO
  rw [show lstL S (.ob k) = some l by unfold lstL; simp only [e]; rfl, show lstL S (.lst m) = some m from rfl]
  exact if_pos (by rw [sizeLine_eq]; omega)
theorem three {w : Int} (hw : w = (mm : Nat)) (hm : 2 ≤ mm ∧ mm ≤ 8) {v0 v2 v4 v5 v6 v7 v8 v9 v10 : Option D} {qq : Nat} {S : Store} (dk : Dk 1 0 qq S) (hq : 123 ≤ qq) :
    Ok (itL (tgName 8) yesF E_law_1 [v0, some (.ob 1), v2, some (.int w), v4, v5, v6, v7, v8, v9, v10] (rngL 0 (Int.toNat 3)) S) fun l S' => ∃ p q r, l = [Pl.d p, Pl.d q, Pl.d r] ∧ Bd mm 5 (5 * 10 ^ 40) 3 p ∧ Bd mm 5 (5 * 10 ^ 40) 3 q ∧ Bd mm 5 (5 * 10 ^ 40) 3 r ∧ Dk 1 0 (qq - 123) S' := by
  have e : rngL 0 (Int.toNat 3) = [.int 0, .int 1, .int 2] := rfl
  rw [e]
  refine Ok.icons ?_
  unfold E_law_1
  and_intros
  refine poly_ok hw hm dk (by omega) fun p S3 hp dk3 k3 => ?_
  and_intros
  refine poly_ok hw hm dk3 (by omega) fun q S4 hq dk4 k4 => ?_
  and_intros
  refine poly_ok hw hm dk4 (by omega) fun r S5 hr dk5 k5 => ?_
  and_intros
  exact ⟨p, q, r, rfl, hp, hq, hr, dk5.mono (by omega)⟩
theorem tail_ok {w : Int} (hw : w = (mm : Nat)) (hm : mm ≤ 8) {v0 v1 v2 v8 v9 v10 : Option D} {k : Nat} {p q r : Pol} (hp : Bd mm 5 (5 * 10 ^ 40) 3 p) (hq : Bd mm 5 (5 * 10 ^ 40) 3 q) (hr : Bd mm 5 (5 * 10 ^ 40) 3 r) {L : List D} (e : S[k]? = some (some (.lst L)))
    (hL : L = [D.lst [Pl.d (Pl.plus p q), Pl.d (Pl.plus q p)], D.lst [Pl.d (Pl.times p q), Pl.d (Pl.times q p)], D.lst [Pl.d (Pl.plus (Pl.plus p q) r), Pl.d (Pl.plus p (Pl.plus q r))],
      D.lst [Pl.d (Pl.times p (Pl.plus q r)), Pl.d (Pl.plus (Pl.times p q) (Pl.times p r))], D.lst [Pl.d (Pl.minus p p), D.ptu []], D.lst [Pl.d (Pl.plus (Pl.minus p q) q), Pl.d p], D.lst [Pl.d (Pl.times p (Pl.const mm 1)), Pl.d p], D.lst [Pl.d (Pl.times p []), D.ptu []],
      D.lst [Pl.d (Pl.minus p q), Pl.d (Pl.plus p (Pl.times (Pl.const mm (-1)) q))], D.lst [Pl.d (Pl.plus [] p), Pl.d p], D.lst [Pl.d (Pl.minus p []), Pl.d p], D.lst [Pl.d (Pl.times (Pl.plus p q) (Pl.minus p q)), Pl.d (Pl.minus (Pl.times p p) (Pl.times q q))]])
    (h : ∀ S', Ext S S' → QS .nx [v0, v1, v2, some (.int w), some (Pl.d p), some (Pl.d q), some (Pl.d r), some (.ob k), v8, v9, v10] S') :
    Hold (OkS (seqS (ifS (tbF (binF neD (cmpD [9, 10] (itF (varF 7)) (tgSeq [tgName 9, tgName 10]) T_law_2 E_law_2) (lstF []))) (retF (cstF (.bl false))) (nxF)) (ifS (orF (tbF (binF neD (binF eqD (calF (fun xs => Lb.F_minus (xs ++ [])) [varF 4, varF 5]) (tupP [])) (binF eqD (varF 4) (varF 5)))) (tbF (binF neD (cmpD [9] (itF (lstF [varF 4, varF 5, varF 6])) (tgName 9) T_law_3 E_law_3) (lstF [])))) (retF (cstF (.bl false))) (nxF))
      [v0, v1, v2, some (.int w), some (Pl.d p), some (Pl.d q), some (Pl.d r), some (.ob k), v8, v9, v10] S) QS) := by
  rw [Pl.plus_comm hp.cn hq.cn, Pl.times_comm hp.cn hq.cn, Pl.plus_assoc hp.cn hq.cn hr.cn, Pl.times_plus hp.cn hq.cn hr.cn, Pl.minus_self hp.cn, Pl.minus_plus hp.cn hq.cn, Pl.times_one hp.cn, Pl.times_nil hp.cn, Pl.minus_eq hp.cn hq.cn, Pl.nil_plus hp.cn, Pl.minus_nil hp.cn, Pl.squares hp.cn hq.cn] at hL
  have b0 : Bd mm 0 0 3 [] := ⟨Pl.cn_nil, by simp, by simp [Pl.nm], fun x hx => absurd hx List.not_mem_nil⟩
  have s1 := (hp.plus hq).sw hm (by decide) (by decide) (by decide)
  have s2 := (hp.times hq).sw hm (by decide) (by decide) (by decide)
  have s3 := ((hp.plus hq).plus hr).sw hm (by decide) (by decide) (by decide)
  have s4 := (hp.times (hq.plus hr)).sw hm (by decide) (by decide) (by decide)
  have s5 := b0.sw hm (by decide) (by decide) (by decide)
  have s6 := hp.sw hm (by decide) (by decide) (by decide)
  have s6q := hq.sw hm (by decide) (by decide) (by decide)
  have s7 := (hp.minus hq).sw hm (by decide) (by decide) (by decide)
  have s8 := ((hp.plus hq).times (hp.minus hq)).sw hm (by decide) (by decide) (by decide)
  have n1 : 5 * 10 ^ 40 < 2 ^ 300 := by decide
  unfold Hold
  refine OkS.seq ?_
  refine OkS.ifS ?_
  refine Ok.tb ?_
  refine Ok.bin ?_
  refine Ok.cmpD ?_
  refine pairs_ok [Pl.plus p q, Pl.times p q, Pl.plus (Pl.plus p q) r, Pl.times p (Pl.plus q r), [], p, p, [], Pl.minus p q, p, p, Pl.times (Pl.plus p q) (Pl.minus p q)] e hL ?_ (by simp) ?_
  · intro x hx
    simp only [List.mem_cons, List.not_mem_nil, or_false] at hx
    rcases hx with e | e | e | e | e | e | e | e | e | e | e | e <;> rw [e] <;> assumption
  and_intros
  refine Lb.ne_nil0 ?_
  and_intros
  refine minusB Ext.refl hp hq (by decide) fun T1 x1 => ?_
  and_intros
  refine Ok.eq_d (y := Pl.d []) s7 s5 (by decide) (by decide) ?_
  rw [Pl.eqb_d]
  and_intros
  refine Ok.eq_d s6 s6q (by decide) (by decide) ?_
  rw [Pl.eqb_d]
  and_intros
  refine Ok.ne_bb ?_
  have e3 : decide (Pl.minus p q = []) = decide (p = q) := decide_eq_decide.mpr (Pl.minus_iff hp.cn hq.cn)
  rw [e3, beq_self_eq_true]
  and_intros
  refine ⟨by simp, ?_⟩
  with_reducible refine Fr.go ?_
  intro fr_ e_
  simp only [List.set_cons_zero, List.set_cons_succ, setAll, wipeF] at e_
  subst e_
  refine (poly_it hw hm [p, q, r] ?_).imp ?_
  · intro x hx
    simp only [List.mem_cons, List.not_mem_nil, or_false] at hx
    rcases hx with e | e | e <;> rw [e]
    · exact ⟨hp.cn, by have := hp.len; omega⟩
    · exact ⟨hq.cn, by have := hq.len; omega⟩
    · exact ⟨hr.cn, by have := hr.len; omega⟩
  rintro ys S' ⟨rfl, rfl⟩
  and_intros
  refine Lb.ne_nil0 ?_
  and_intros
  exact h _ x1
end
local macro_rules | `(tactic| and_intros) => `(tactic| repeat (first | ((with_reducible refine Ok.tgT ?_ ?_); (exact rfl)) | ((with_reducible refine Ok.tgQt ?_ ?_); (exact rfl)) | ((with_reducible refine Ok.tgQl ?_ ?_); (exact rfl)) | with_reducible refine Ok.tupP ?_ | with_reducible refine Ok.tupleP ?_ | ((with_reducible refine Ok.isi_ptu (p := true) ?_ ?_); decide +kernel) | ((with_reducible refine Ok.isi_ptu (p := false) ?_ ?_); decide +kernel) | with_reducible refine ItQ.ptu ?_ | with_reducible refine SrcQ.ptu ?_ | with_reducible refine Ok.len_p ?_ | with_reducible refine holdS ?_ | with_reducible refine Ok.sli_tail ?_ | ((with_reducible refine Ok.var ?_); refine ⟨_, rfl, ?_⟩) | ((with_reducible refine Fr.go ?_); intro fr_ e_; simp only [List.set_cons_zero, List.set_cons_succ, setAll, wipeF] at e_; subst e_) | with_reducible refine Ok.bin ?_ | with_reducible refine Ok.calp ?_ | with_reducible refine Ok.cal ?_ | with_reducible refine Ok.cst ?_ | with_reducible refine Ok.acons ?_ | with_reducible refine Ok.anil ?_ | with_reducible refine Ok.un ?_ | with_reducible refine Ok.tb ?_ | with_reducible refine Ok.tsb ?_ | with_reducible refine OkS.seq ?_ | with_reducible refine OkS.asg ?_ | with_reducible refine Then.nx ?_ | with_reducible refine Then.rt ?_ | with_reducible refine OkS.ifS ?_ | with_reducible refine Ok.notF ?_ | with_reducible refine Ok.andF ?_ | with_reducible refine Ok.orF ?_ | with_reducible refine Ok.ite ?_ | with_reducible refine Br.t ?_ | with_reducible refine Br.f ?_ | with_reducible refine Br.not ?_ | ((with_reducible refine OkS.aug ?_); refine ⟨_, rfl, ?_⟩) | ((with_reducible refine Ok.ix_t ?_); refine ⟨_, rfl, ?_⟩) | ((with_reducible refine Ok.ix_l ?_); refine ⟨_, rfl, ?_⟩) | ((with_reducible refine Ok.tgT ?_ ?_); exact rfl) | with_reducible refine Ok.tup ?_ | with_reducible refine Ok.lst ?_ | with_reducible refine Ok.lstO ?_ | with_reducible refine Ok.tst ?_ | with_reducible refine Ok.tru_bl ?_ | with_reducible refine Ok.tru_non ?_ | with_reducible refine Ok.tru_tup ?_ | with_reducible refine Ok.tru_lst ?_ | with_reducible refine Ok.tru_int ?_ | with_reducible refine Ok.boolF ?_ | with_reducible refine Ok.andV ?_ | with_reducible refine Ok.orV ?_ | with_reducible refine Ok.notV ?_ | with_reducible refine Ok.yes ?_ | with_reducible refine Ok.prtN ?_ | with_reducible refine Ok.prtS ?_ | with_reducible refine Ok.sli ?_ | with_reducible refine Ok.chF ?_ | with_reducible refine Ok.exi ?_ | with_reducible refine Ok.exb ?_ | with_reducible refine Ok.add_ii ?_ | with_reducible refine Ok.sub_ii ?_ | with_reducible refine Ok.neg_i ?_ | with_reducible refine Ok.lt_ii ?_ | with_reducible refine Ok.le_ii ?_ | with_reducible refine Ok.gt_ii ?_ | with_reducible refine Ok.ge_ii ?_ | with_reducible refine Ok.eq_ii ?_ | with_reducible refine Ok.ne_ii ?_ | with_reducible refine Ok.eq_ss ?_ | with_reducible refine Ok.ne_ss ?_ | with_reducible refine Ok.in_ss ?_ | with_reducible refine Ok.nin_ss ?_ | with_reducible refine Ok.is_nn ?_ | with_reducible refine Ok.int_i ?_ | with_reducible refine Ok.int_b ?_ | with_reducible refine Ok.str_s ?_ | with_reducible refine Ok.max_ii ?_ | with_reducible refine Ok.min_ii ?_ | with_reducible refine Ok.len_t ?_ | with_reducible refine Ok.len_l ?_ | with_reducible refine Ok.tup_t ?_ | with_reducible refine Ok.tup_l ?_ | with_reducible refine Ok.lst_t ?_ | with_reducible refine Ok.lst_l ?_ | with_reducible refine Ok.sli_t ?_ | with_reducible refine Ok.sli_l ?_ | with_reducible refine OkS.ret ?_ | with_reducible refine OkS.retN ?_ | with_reducible refine OkS.expr ?_ | with_reducible refine OkS.nx ?_ | with_reducible refine OkS.bk ?_ | with_reducible refine OkS.ct ?_ | with_reducible refine Then.bk ?_ | with_reducible refine Then.ct ?_ | with_reducible refine Rt.rt ?_ | with_reducible refine Rt.nx ?_ | with_reducible refine Lp.nx ?_ | with_reducible refine Lp.ct ?_ | with_reducible refine Lp.bk ?_ | with_reducible refine Lp.rt ?_ | with_reducible refine OkS.asgG ?_ | with_reducible refine OkS.par ?_ | with_reducible refine Ok.iadd_ii ?_ | with_reducible refine Ok.isub_ii ?_ | with_reducible refine Ok.tgN ?_ | with_reducible refine Ok.tgA0 ?_ | with_reducible refine Ok.tgA ?_ | with_reducible refine Ok.tgSub ?_ | with_reducible refine Ok.rngF ?_ | with_reducible refine Ok.cmpD ?_ | with_reducible refine Ok.cmpO ?_ | with_reducible refine Ok.ret ?_ | with_reducible refine Ok.ok ?_ | with_reducible refine Ok.newO ?_ | with_reducible refine Ok.bnd ?_ | with_reducible refine OkS.fore ?_ | with_reducible refine Ok.cmpe ?_ | with_reducible refine Ok.itT ?_ | with_reducible refine ItQ.tup ?_ | with_reducible refine ItQ.lst ?_ | with_reducible refine ItQ.ctu ?_ | with_reducible refine SrcQ.con ?_ | with_reducible refine SrcQ.tup ?_ | with_reducible refine SrcQ.lst ?_ | with_reducible refine SrcQ.ctu ?_ | ((with_reducible refine Ok.mod_ii ?_ ?_); (first | decide | (simp; done) | (simp; omega))) | ((with_reducible refine Ok.add_tt ?_ ?_); (first | decide | (simp; done) | (simp; omega))) | ((with_reducible refine Ok.add_ll ?_ ?_); (first | decide | (simp; done) | (simp; omega))) | ((with_reducible refine Ok.add_ss ?_ ?_); (first | decide | (simp; done) | (simp; omega))) | ((with_reducible refine Ok.rng1 ?_ ?_); (first | decide | omega | (simp; omega))) | ((with_reducible refine Br.dt ?_ ?_); (first | assumption | exact rfl | omega | decide +kernel)) | ((with_reducible refine Br.df ?_ ?_); (first | assumption | omega | decide +kernel)) | ((with_reducible refine Br.tt ?_ ?_); (first | assumption | decide +kernel)) | ((with_reducible refine Br.ff ?_ ?_); (first | assumption | decide +kernel)) | with_reducible refine Ok.is_in ?_ | with_reducible refine Ok.is_tn ?_ | with_reducible refine Ok.is_bn ?_ | with_reducible refine Ok.is_sn ?_ | with_reducible refine Ok.nis_in ?_ | with_reducible refine Ok.nis_tn ?_ | with_reducible refine Ok.nis_bn ?_ | with_reducible refine Ok.nis_sn ?_ | with_reducible refine OkS.lcons ?_ | with_reducible refine OkS.lnil ?_ | with_reducible refine Ok.icons ?_ | with_reducible refine Ok.inil ?_ | with_reducible refine Ok.is_bb ?_ | with_reducible refine Ok.nis_bb ?_ | with_reducible refine Ok.nis_nn ?_ | with_reducible refine Ok.pcons ?_ | with_reducible refine Ok.pnil ?_ | with_reducible refine Ok.dctK ?_ | with_reducible refine Ok.tgDic ?_ | with_reducible refine Ok.fld ?_ | with_reducible refine Ok.tgAtt ?_ | with_reducible refine Ok.makO ?_ | ((with_reducible refine Ok.isi_tup (p := true) ?_ ?_); decide +kernel) | ((with_reducible refine Ok.isi_tup (p := false) ?_ ?_); decide +kernel) | ((with_reducible refine Ok.isi_int (p := true) ?_ ?_); decide +kernel) | ((with_reducible refine Ok.isi_int (p := false) ?_ ?_); decide +kernel) | ((with_reducible refine Ok.isi_str (p := true) ?_ ?_); decide +kernel) | ((with_reducible refine Ok.isi_str (p := false) ?_ ?_); decide +kernel) | ((with_reducible refine Ok.isi_lst (p := true) ?_ ?_); decide +kernel) | ((with_reducible refine Ok.isi_lst (p := false) ?_ ?_); decide +kernel) | ((with_reducible refine Ok.isi_bl (p := true) ?_ ?_); decide +kernel) | ((with_reducible refine Ok.isi_bl (p := false) ?_ ?_); decide +kernel) | ((with_reducible refine Ok.isi_non (p := true) ?_ ?_); decide +kernel) | ((with_reducible refine Ok.isi_non (p := false) ?_ ?_); decide +kernel) | ((with_reducible refine Ok.isi_ctu (p := true) ?_ ?_); decide +kernel) | ((with_reducible refine Ok.isi_ctu (p := false) ?_ ?_); decide +kernel) | ((with_reducible refine Ok.isi_emp (p := true) ?_ ?_); decide +kernel) | ((with_reducible refine Ok.isi_emp (p := false) ?_ ?_); decide +kernel) | (with_reducible refine Ok.disp ?_)))
theorem law_true (ns : List Int) (h : ns.length ≤ 63) : ∃ S, F_law [.lst (ns.map .int)] [] = .ok (.bl true) S := by
  suffices h : Ok (F_law [.lst (ns.map .int)] []) fun d _ => d = .bl true by
    obtain ⟨d, S, e, rfl⟩ := h.ex
    exact ⟨S, e⟩
  with_reducible refine Ok.def_ ?_
  simp only [frame0, List.map_cons, List.map_nil, List.length_cons, List.length_nil, Nat.reduceAdd, Nat.reduceSub, Nat.zero_add, List.reduceReplicate, List.cons_append, List.nil_append]
  unfold B_law
  and_intros
  obtain ⟨S1, e1, dk, -, -⟩ := deck_run (S := []) h
  refine Ok.of e1 ?_
  obtain ⟨B, dk, hB⟩ : ∃ B, Dk 1 0 B S1 ∧ 20000 ≤ B := ⟨_, dk, by decide⟩
  and_intros
  refine OkS.loop (I := fun i fr S => (∃ v2 v3 v4 v5 v6 v7 v8 v9 v10, fr = [some (.lst (ns.map .int)), some (.ob 1), v2, v3, v4, v5, v6, v7, v8, v9, v10]) ∧ Dk 1 0 (B - 200 * i) S) ⟨⟨_, _, _, _, _, _, _, _, _, rfl⟩, dk.mono (by omega)⟩ ?_ ?_
  · rintro i x fr S hx ⟨⟨v2, v3, v4, v5, v6, v7, v8, v9, v10, rfl⟩, dk⟩
    obtain ⟨rfl, hi⟩ := rngL_get hx
    replace hi : i < 8 := hi
    unfold L_law_1
    simp only [e_plus, e_minus, e_times, e_constant]
    and_intros
    refine Ok.draw dk (by omega) (by decide) (by decide) ?_
    intro r S2 r0 r1 dk2 _
    and_intros
    have hmm : ∃ mm : Nat, 2 + r = (mm : Nat) ∧ 2 ≤ mm ∧ mm ≤ 8 := ⟨(2 + r).toNat, by omega, by omega, by omega⟩
    have hw := hmm.choose_spec
    generalize hmm.choose = mm at hw
    obtain ⟨hw, m2, m8⟩ := hw
    generalize 2 + r = w at hw
    and_intros
    refine ⟨by decide, ?_⟩
    and_intros
    refine (three hw ⟨m2, m8⟩ dk2 (by omega)).imp ?_
    intro l S3 hl
    obtain ⟨p, q, r, e, hp, hq, hr, dk3⟩ := hl
    subst e
    and_intros
    have m1000 : mm ≤ 1000 := by omega
    have n1 : 5 * 10 ^ 40 < 2 ^ 300 := by decide
    have n2 : 5 * 10 ^ 40 + 5 * 10 ^ 40 < 2 ^ 300 := by decide
    have n0 : 0 < 2 ^ 300 := by decide
    have nc : (1 : Int).natAbs < 2 ^ 300 := by decide
    have nd : (-1 : Int).natAbs < 2 ^ 300 := by decide
    have b0 : Bd mm 0 0 3 [] := ⟨Pl.cn_nil, by simp, by simp [Pl.nm], fun x hx => absurd hx List.not_mem_nil⟩
    refine plusB Ext.refl hp hq (by decide) fun T1 x1 => ?_
    and_intros
    refine plusB x1 hq hp (by decide) fun T2 x2 => ?_
    and_intros
    refine timesB x2 m1000 hp hq n1 n1 (by decide) fun T3 x3 => ?_
    and_intros
    refine timesB x3 m1000 hq hp n1 n1 (by decide) fun T4 x4 => ?_
    and_intros
    refine plusB x4 hp hq (by decide) fun T5 x5 => ?_
    and_intros
    refine plusB x5 (hp.plus hq) hr (by decide) fun T6 x6 => ?_
    and_intros
    refine plusB x6 hq hr (by decide) fun T7 x7 => ?_
    and_intros
    refine plusB x7 hp (hq.plus hr) (by decide) fun T8 x8 => ?_
    and_intros
    refine plusB Ext.refl hq hr (by decide) fun T9 x9 => ?_
    and_intros
    refine timesB x9 m1000 hp (hq.plus hr) n1 n2 (by decide) fun T10 x10 => ?_
    and_intros
    refine timesB x10 m1000 hp hq n1 n1 (by decide) fun T11 x11 => ?_
    and_intros
    refine timesB x11 m1000 hp hr n1 n1 (by decide) fun T12 x12 => ?_
    and_intros
    refine plusB x12 (hp.times hq) (hp.times hr) (by decide) fun T13 x13 => ?_
    and_intros
    refine minusB x13 hp hp (by decide) fun T14 x14 => ?_
    and_intros
    refine addO_ok (x14.get List.getElem?_concat_length) (by simp) ?_
    and_intros
    refine minusB Ext.refl hp hq (by decide) fun T15 x15 => ?_
    and_intros
    refine plusB x15 (hp.minus hq) hq (by decide) fun T16 x16 => ?_
    and_intros
    refine Lb.constantI hw m1000 ?_
    and_intros
    refine timesB x16 m1000 hp (Bd.const (c := 1)) n1 nc (by decide) fun T17 x17 => ?_
    and_intros
    refine timesB x17 m1000 hp b0 n1 n0 (by decide) fun T18 x18 => ?_
    and_intros
    refine addO_ok (x18.get List.getElem?_concat_length) (by simp) ?_
    and_intros
    refine minusB Ext.refl hp hq (by decide) fun T19 x19 => ?_
    and_intros
    refine Lb.constantI hw m1000 ?_
    and_intros
    refine timesB x19 m1000 (Bd.const (c := -1)) hq nd n1 (by decide) fun T20 x20 => ?_
    and_intros
    refine plusB x20 hp (((Bd.const (c := -1)).times hq).mono (Nat.le_refl _) (Nat.le_refl _) (show (0 : Int) + 3 ≤ 3 by decide)) (by decide) fun T21 x21 => ?_
    and_intros
    refine plusB x21 b0 hp (by decide) fun T22 x22 => ?_
    and_intros
    refine minusB x22 hp b0 (by decide) fun T23 x23 => ?_
    and_intros
    refine addO_ok (x23.get List.getElem?_concat_length) (by simp) ?_
    and_intros
    refine Ok.met ?_
    and_intros
    refine ⟨tyR_lst List.getElem?_concat_length, ?_⟩
    and_intros
    refine plusB Ext.refl hp hq (by decide) fun T24 x24 => ?_
    and_intros
    refine minusB x24 hp hq (by decide) fun T25 x25 => ?_
    and_intros
    refine timesB x25 m1000 (hp.plus hq) (hp.minus hq) n2 n2 (by decide) fun T26 x26 => ?_
    and_intros
    refine timesB x26 m1000 hp hp n1 n1 (by decide) fun T27 x27 => ?_
    and_intros
    refine timesB x27 m1000 hq hq n1 n1 (by decide) fun T28 x28 => ?_
    and_intros
    refine minusB x28 (hp.times hp) (hq.times hq) (by decide) fun T29 x29 => ?_
    and_intros
    refine Ok.app_o (x29.get List.getElem?_concat_length) (by simp) ?_
    and_intros
    have E14 := (x8.trans Ext.app).trans x14
    have E18 := (E14.trans Ext.app).trans x18
    have E23 := (E18.trans Ext.app).trans x23
    have E29 := (E23.trans Ext.app).trans x29
    refine tail_ok hw m8 hp hq hr (List.getElem?_set_self (by have := x29.len; simp at this; omega)) rfl fun S' ex => ?_
    and_intros
    exact ⟨⟨_, _, _, _, _, _, _, _, _, rfl⟩, (dk3.ext ((E29.set E23.len).trans ex)).mono (by omega)⟩
  · rintro fr S ⟨⟨v2, v3, v4, v5, v6, v7, v8, v9, v10, rfl⟩, dk⟩
    and_intros
    rfl
end K09
open PySem PySem.W PyProof.Rows
set_option maxRecDepth 100000 in
set_option maxHeartbeats 0 in
theorem PySem.Challenge.cw_levelkeys_k09_whole_rules_of_polynomials_holds : PySem.Challenge.rw_levelkeys_k09_whole_rules_of_polynomials.Holds := by
  w_on; o_law; k_head; (case hw => w_witness2)
  k_fill
  refine DL.law_walk (l := PySem.Challenge.rw_levelkeys_k09_whole_rules_of_polynomials) rfl rfl (fun w h Y => PySem.W.kIn_of Y) ?F
  case F =>
    intro w mg fa h KX G hmg
    refine' K09.all_mk KX G hmg ?a0 ?l0 ?c0 ?k0 ?a1 ?l1 ?c1 ?k1 ?a2 ?l2 ?c2 ?k2 ?a3 ?l3 ?c3 ?k3 ?a4 ?l4 ?c4 ?k4 ?a5 ?l5 ?c5 ?k5 ?a6 ?l6 ?c6 ?k6 ?a7 ?l7 ?c7 ?k7 ?a8 ?l8 ?c8 ?k8 ?a9 ?l9 ?c9 ?k9 ?a10 ?l10 ?c10 ?k10 ?a11 ?l11 ?c11 ?k11 ?a12 ?l12 ?c12 ?k12 ?a13 ?l13 ?c13 ?k13 ?b_abs ?b_bool ?b_dict ?b_int ?b_isinstance ?b_len ?b_range ?b_repr ?b_sorted ?b_tuple ?b_zip K09.law_true
    (case a0 => k_is)
    (case l0 => k_is)
    (case c0 => k_is)
    (case k0 => k_is)
    (case a1 => k_is)
    (case l1 => k_is)
    (case c1 => k_is)
    (case k1 => k_is)
    (case a2 => k_is)
    (case l2 => k_is)
    (case c2 => k_is)
    (case k2 => k_is)
    (case a3 => k_is)
    (case l3 => k_is)
    (case c3 => k_is)
    (case k3 => k_is)
    (case a4 => k_is)
    (case l4 => k_is)
    (case c4 => k_is)
    (case k4 => k_is)
    (case a5 => k_is)
    (case l5 => k_is)
    (case c5 => k_is)
    (case k5 => k_is)
    (case a6 => k_is)
    (case l6 => k_is)
    (case c6 => k_is)
    (case k6 => k_is)
    (case a7 => k_is)
    (case l7 => k_is)
    (case c7 => k_is)
    (case k7 => k_is)
    (case a8 => k_is)
    (case l8 => k_is)
    (case c8 => k_is)
    (case k8 => k_is)
    (case a9 => k_is)
    (case l9 => k_is)
    (case c9 => k_is)
    (case k9 => k_is)
    (case a10 => k_is)
    (case l10 => k_is)
    (case c10 => k_is)
    (case k10 => k_is)
    (case a11 => k_is)
    (case l11 => k_is)
    (case c11 => k_is)
    (case k11 => k_is)
    (case a12 => k_is)
    (case l12 => k_is)
    (case c12 => k_is)
    (case k12 => k_is)
    (case a13 => k_is)
    (case l13 => k_is)
    (case c13 => k_is)
    (case k13 => k_is)
    (case b_abs => k_is)
    (case b_bool => k_is)
    (case b_dict => k_is)
    (case b_int => k_is)
    (case b_isinstance => k_is)
    (case b_len => k_is)
    (case b_range => k_is)
    (case b_repr => k_is)
    (case b_sorted => k_is)
    (case b_tuple => k_is)
    (case b_zip => k_is)
