import PyProof.Rows.All
import Wide.All
import OpenK.AllK
import Wide.FinOn
import HandS.ForMost
import HandS.ForExc
import HandS.ExcInit
import HandS.Deep
import HandS.TupAny
import HandS.Wide
import HandS.TupLe
import HandS.Walk
import HandS.Zip
import HandS.IsInst
import HandS.RaiseMore
import HandS.CallSlots
import HandS.ReCall
import HandS.Replace
import HandS.Style
import HandS.MapJoin
import KE.GoesMore
import KE.GoesEnum
import HandS.SortInts
import HandS.FStr
import HandS.Property
import KE.KAssignIn
import HandS.Small
import HandS.Defaults
import HandS.TupMul
import PyProof.EqKinds
import PyProof.FactsAll.dict_1
import PyProof.FactsAll.subtypes_3
import PyProof.FactsAll.subtypes_4
import HandS.DictTup
import HandS.Iter
import KE.KDictPairs
import KE.SortData
import KE.DataCmp
import HandS.TryOnly
import PyProof.FitsInt
import PyProof.StrLawsRepr
import HandS.Strs
import KE.KDictWalk
import HandS.Exc
import HandS.TryMany
import HandS.ExcIs
import HandS.WordsExc
import KE.KExcIs
import KE.GoesNew
import KE.DataFind
import KE.KMulAny
import HandS.SetKeys
import HandS.WideBits
import HandS.MapSum
import KE.KDictSum
import KE.KDictCopyH
import HandS.Text
import PyProof.ListStr
import HandS.Conv
import HandS.SlotsOwn
import PyProof.ExcBaseAll.ValueError
import HandS.TupSets
import HandS.Set
import PySem.Challenge.RW_levelkeys_k47_rows_operand_by_operand
set_option Elab.async false
set_option linter.all false
set_option maxRecDepth 100000
set_option maxHeartbeats 4000000
namespace DL
open PySem PySem.Spec PyProof.Rows L2

/-- data: a frozen value, or a mutable object by its number in the store -/
inductive D where
  | non | bl (b : Bool) | int (i : Int) | str (x : Str)
  | tup (l : List D) | lst (l : List D) | emp | ob (n : Nat) | ctu (l : List D) | ptu (l : List D)
/-- a mutable object -/
inductive O where
  | lst (l : List D) | dk (l : List (Key × D)) | dt (l : List (List Key × D)) | ins (c : Str) (fs : List (Str × D)) | exn (c : Str) (fs : List (Str × D))
abbrev Store := List (Option O)
structure Exc where
  cls : Str
  fs : List (Str × D)
inductive R (α : Type) where
  | ok (a : α) (S : Store) | err (x : Exc) (S : Store) | bad
abbrev M (α : Type) := Store → R α
def ret {α : Type} (a : α) : M α := fun S => .ok a S
def bad {α : Type} : M α := fun _ => .bad
def bnd {α β : Type} (m : M α) (f : α → M β) : M β := fun S => match m S with
  | .ok a S' => f a S'
  | .err x S' => .err x S'
  | .bad => .bad
instance : Monad M where
  pure := ret
  bind := bnd
@[simp] theorem ret_run {α : Type} (a : α) (S : Store) : ret a S = .ok a S := rfl
@[simp] theorem bad_run {α : Type} (S : Store) : (bad : M α) S = .bad := rfl
theorem bnd_ok {α β : Type} {m : M α} {f : α → M β} {S S' : Store} {a : α} (h : m S = .ok a S') : bnd m f S = f a S' := by unfold bnd; rw [h]
theorem bnd_err {α β : Type} {m : M α} {f : α → M β} {S S' : Store} {x : Exc} (h : m S = .err x S') : bnd m f S = .err x S' := by unfold bnd; rw [h]
theorem bnd_bad {α β : Type} {m : M α} {f : α → M β} {S : Store} (h : m S = .bad) : bnd m f S = .bad := by unfold bnd; rw [h]

abbrev Frame := List (Option D)
inductive Fl where
  | nx | rt (d : D) | bk | ct

/-! ### what a value stands for -/
/-- a frozen list, or one of the module -/
def Ls (K : PySem.W.Frag) (H : Hp) (a : Addr) (xs : List V) : Prop := (∃ o, H a = some (.frz o (.lst xs))) ∨ SqL K (fun _ => none) a xs
theorem Ls.sq {K : PySem.W.Frag} {H : Hp} {a : Addr} {xs : List V} (h : Ls K H a xs) : SqL K H a xs := by
  rcases h with ⟨o, h⟩ | h
  · exact .inl (.inr ⟨o, h⟩)
  · rcases h with h | h
    · rcases h with h | ⟨o, h⟩ <;> cases h
    · exact .inr h
section
variable (K : PySem.W.Frag) (ι : List Addr) (H : Hp)
mutual
def Rp : D → V → Prop
  | .non, v => v = .non
  | .bl b, v => v = .bl b
  | .int i, v => v = .int i
  | .str x, v => v = .str x
  | .tup l, v => ∃ a vs, v = .ref a ∧ H a = some (.tup vs) ∧ Rps l vs
  | .ctu l, v => ∃ a vs, v = .ref a ∧ SqT K H a vs ∧ Rps l vs
  | .ptu l, v => ∃ a o vs, v = .ref a ∧ H a = some (.frz o (.tup vs)) ∧ o.dict = none ∧ Rps l vs
  | .lst l, v => ∃ a vs, v = .ref a ∧ Ls K H a vs ∧ Rps l vs
  | .emp, v => ∃ a o, v = .ref a ∧ H a = some (.frz o (.dK []))
  | .ob n, v => ∃ a, v = .ref a ∧ ι[n]? = some a
def Rps : List D → List V → Prop
  | [], vs => vs = []
  | d :: ds, vs => ∃ v r, vs = v :: r ∧ Rp d v ∧ Rps ds r
end
def Rkv {κ : Type} : List (κ × D) → List (κ × V) → Prop
  | [], vs => vs = []
  | (k, d) :: ds, vs => ∃ v r, vs = (k, v) :: r ∧ Rp K ι H d v ∧ Rkv ds r
/-- an object at its address -/
def OR (mg : Str → Option Value) : O → Addr → Prop
  | .lst l, a => ∃ vs, H a = some (.lst vs) ∧ Rps K ι H l vs
  | .dk l, a => ∃ vs, H a = some (.dK vs) ∧ Rkv K ι H l vs
  | .dt l, a => ∃ vs, H a = some (.dT vs) ∧ Rkv K ι H l vs
  | .ins c fs, a => ∃ C dx vs, mg c = some (.ref C) ∧ H a = some (.ins C dx vs) ∧ Rkv K ι H fs vs
  | .exn c fs, a => ∃ C, mg c = some (.ref C) ∧ ((fs = [] ∧ H a = some (exo a C none)) ∨ ∃ od dx vs, H a = some (exo a C (some dx)) ∧ H dx = some (.frz od (exd dx vs)) ∧ Rkv K ι H fs vs)
end
/-- the store is held -/
structure SR (K : PySem.W.Frag) (mg : Str → Option Value) (ι : List Addr) (S : Store) (H : Hp) : Prop where
  nd : ι.Nodup
  len : S.length = ι.length
  occ : ∀ a ∈ ι, H a ≠ none ∧ ∀ xs, H a ≠ some (.tup xs)
  obj : ∀ (n : Nat) (o : O), S[n]? = some (some o) → ∃ a, ι[n]? = some a ∧ OR K ι H mg o a
def FR (K : PySem.W.Frag) (ι : List Addr) (fr : Frame) (σ : L2.St) (H : Hp) : Prop :=
  fr.length = σ.length ∧ ∀ (i : Nat) (d : D), fr[i]? = some (some d) → ∃ v, σ[i]? = some (some v) ∧ Rp K ι H d v
/-- the way from one state to a later one -/
structure Mn (ι : List Addr) (H : Hp) (ι' : List Addr) (H' : Hp) : Prop where
  pre : ∃ t, ι' = ι ++ t ∧ ∀ a ∈ t, H a = none
  live : ∀ a, H a ≠ none → H' a ≠ none
  tups : ∀ a xs, H a = some (.tup xs) → H' a = some (.tup xs)
  frzs : ∀ a o u, H a = some (.frz o u) → H' a = some (.frz o u)
  kept : ∀ a o, H a = some o → a ∉ ι → H' a = some o
/-- .. what data leans on -/
structure Mw (ι : List Addr) (H : Hp) (ι' : List Addr) (H' : Hp) : Prop where
  pre : ∃ t, ι' = ι ++ t
  tups : ∀ a xs, H a = some (.tup xs) → H' a = some (.tup xs)
  frzs : ∀ a o u, H a = some (.frz o u) → H' a = some (.frz o u)
section
variable {K : PySem.W.Frag} {mg : Str → Option Value} {ι ι' ι2 : List Addr} {H H' H2 : Hp}
theorem Mn.refl : Mn ι H ι H := ⟨⟨[], by simp, by simp⟩, fun _ h => h, fun _ _ h => h, fun _ _ _ h => h, fun _ _ h _ => h⟩
theorem Mn.trans (a : Mn ι H ι' H') (b : Mn ι' H' ι2 H2) : Mn ι H ι2 H2 := by
  obtain ⟨t, e, ht⟩ := a.pre
  obtain ⟨u, e', hu⟩ := b.pre
  subst e
  refine ⟨⟨t ++ u, by rw [e', List.append_assoc], fun x hx => ?_⟩, fun x h => b.live x (a.live x h), fun x xs h => b.tups x xs (a.tups x xs h), fun x o u h => b.frzs x o u (a.frzs x o u h), fun x o h hx => ?_⟩
  · rcases List.mem_append.mp hx with h | h
    · exact ht x h
    · have q := hu x h
      cases e1 : H x with
      | none => rfl
      | some o => exact absurd q (a.live x (by rw [e1]; simp))
  · exact b.kept x o (a.kept x o h hx) fun z => by
      rcases List.mem_append.mp z with z | z
      · exact hx z
      · rw [ht x z] at h; cases h
theorem Mw.ix (m : Mw ι H ι' H') {n : Nat} {a : Addr} (h : ι[n]? = some a) : ι'[n]? = some a := by
  obtain ⟨t, rfl⟩ := m.pre
  obtain ⟨hn, _⟩ := List.getElem?_eq_some_iff.mp h
  rw [List.getElem?_append_left hn, h]
theorem Mw.sqT (m : Mw ι H ι' H') {a : Addr} {xs : List V} (h : SqT K H a xs) : SqT K H' a xs := by
  rcases h with (h | ⟨o, h⟩) | h
  · exact .inl (.inl (m.tups _ _ h))
  · exact .inl (.inr ⟨o, m.frzs _ _ _ h⟩)
  · exact .inr h
theorem Mw.ls (m : Mw ι H ι' H') {a : Addr} {xs : List V} (h : Ls K H a xs) : Ls K H' a xs := by
  rcases h with ⟨o, h⟩ | h
  · exact .inl ⟨o, m.frzs _ _ _ h⟩
  · exact .inr h
mutual
theorem Mw.rp (m : Mw ι H ι' H') : ∀ {d : D} {v : V}, Rp K ι H d v → Rp K ι' H' d v
  | .non, _, h => h
  | .bl _, _, h => h
  | .int _, _, h => h
  | .str _, _, h => h
  | .tup l, v, h => by
    obtain ⟨a, vs, e, h1, h2⟩ := h
    exact ⟨a, vs, e, m.tups _ _ h1, m.rps h2⟩
  | .ctu l, v, h => by
    obtain ⟨a, vs, e, h1, h2⟩ := h
    exact ⟨a, vs, e, m.sqT h1, m.rps h2⟩
  | .ptu l, v, h => by
    obtain ⟨a, o, vs, e, h1, h0, h2⟩ := h
    exact ⟨a, o, vs, e, m.frzs _ _ _ h1, h0, m.rps h2⟩
  | .lst l, v, h => by
    obtain ⟨a, vs, e, h1, h2⟩ := h
    exact ⟨a, vs, e, m.ls h1, m.rps h2⟩
  | .emp, v, h => by
    obtain ⟨a, o, e, h1⟩ := h
    exact ⟨a, o, e, m.frzs _ _ _ h1⟩
  | .ob n, v, h => by
    obtain ⟨a, e, h1⟩ := h
    exact ⟨a, e, m.ix h1⟩
theorem Mw.rps (m : Mw ι H ι' H') : ∀ {ds : List D} {vs : List V}, Rps K ι H ds vs → Rps K ι' H' ds vs
  | [], _, h => h
  | d :: ds, vs, h => by
    obtain ⟨v, r, e, h1, h2⟩ := h
    exact ⟨v, r, e, m.rp h1, m.rps h2⟩
end
theorem Mw.fr (m : Mw ι H ι' H') {fr : Frame} {σ : L2.St} (h : FR K ι fr σ H) : FR K ι' fr σ H' :=
  ⟨h.1, fun i d e => let ⟨v, e1, r⟩ := h.2 i d e; ⟨v, e1, m.rp r⟩⟩
theorem Mn.w (m : Mn ι H ι' H') : Mw ι H ι' H' := ⟨let ⟨t, e, _⟩ := m.pre; ⟨t, e⟩, m.tups, m.frzs⟩
theorem Mn.ix (m : Mn ι H ι' H') {n : Nat} {a : Addr} (h : ι[n]? = some a) : ι'[n]? = some a := m.w.ix h
theorem Mn.rp (m : Mn ι H ι' H') {d : D} {v : V} (h : Rp K ι H d v) : Rp K ι' H' d v := m.w.rp h
theorem Mn.rps (m : Mn ι H ι' H') {d : List D} {v : List V} (h : Rps K ι H d v) : Rps K ι' H' d v := m.w.rps h
theorem Mn.fr (m : Mn ι H ι' H') {fr : Frame} {σ : L2.St} (h : FR K ι fr σ H) : FR K ι' fr σ H' := m.w.fr h
theorem Rps.length : ∀ {ds : List D} {vs : List V}, Rps K ι H ds vs → ds.length = vs.length
  | [], _, h => by subst h; rfl
  | d :: ds, _, h => by
    obtain ⟨v, r, rfl, _, h2⟩ := h
    simp [Rps.length h2]
theorem Rps.get : ∀ {ds : List D} {vs : List V} {i : Nat} {d : D}, Rps K ι H ds vs → ds[i]? = some d → ∃ v, vs[i]? = some v ∧ Rp K ι H d v
  | [], _, _, _, _, e => by simp at e
  | d :: ds, _, 0, _, h, e => by
    obtain ⟨v, r, rfl, h1, _⟩ := h
    simp at e
    subst e
    exact ⟨v, rfl, h1⟩
  | d :: ds, _, i + 1, x, h, e => by
    obtain ⟨v, r, rfl, _, h2⟩ := h
    obtain ⟨w, e1, r1⟩ := Rps.get (i := i) h2 (by simpa using e)
    exact ⟨w, by simpa using e1, r1⟩
theorem Rps.app : ∀ {ds es : List D} {vs ws : List V}, Rps K ι H ds vs → Rps K ι H es ws → Rps K ι H (ds ++ es) (vs ++ ws)
  | [], _, _, _, h, h' => by subst h; exact h'
  | d :: ds, _, _, _, h, h' => by
    obtain ⟨v, r, rfl, h1, h2⟩ := h
    exact ⟨v, _, rfl, h1, Rps.app h2 h'⟩
theorem Rps.take : ∀ {ds : List D} {vs : List V} (n : Nat), Rps K ι H ds vs → Rps K ι H (ds.take n) (vs.take n)
  | _, _, 0, _ => by simp [Rps]
  | [], _, n + 1, h => by subst h; simp [Rps]
  | d :: ds, _, n + 1, h => by
    obtain ⟨v, r, rfl, h1, h2⟩ := h
    exact ⟨v, _, rfl, h1, Rps.take n h2⟩
theorem Rps.drop : ∀ {ds : List D} {vs : List V} (n : Nat), Rps K ι H ds vs → Rps K ι H (ds.drop n) (vs.drop n)
  | _, _, 0, h => by simpa using h
  | [], _, n + 1, h => by subst h; simp [Rps]
  | d :: ds, _, n + 1, h => by
    obtain ⟨v, r, rfl, h1, h2⟩ := h
    simpa using Rps.drop n h2
theorem Rps.set {d : D} {v : V} (q : Rp K ι H d v) : ∀ {ds : List D} {vs : List V} (n : Nat), Rps K ι H ds vs → Rps K ι H (ds.set n d) (vs.set n v)
  | [], _, _, h => by subst h; simp [Rps]
  | _ :: _, _, 0, h => by
    obtain ⟨w, r, rfl, h1, h2⟩ := h
    exact ⟨v, r, rfl, q, h2⟩
  | e :: ds, _, n + 1, h => by
    obtain ⟨w, r, rfl, h1, h2⟩ := h
    exact ⟨w, _, rfl, h1, Rps.set q n h2⟩
theorem Rps.of_ints : ∀ (ns : List Int), Rps K ι H (ns.map .int) (ns.map V.int)
  | [] => rfl
  | n :: r => ⟨_, _, rfl, rfl, Rps.of_ints r⟩
theorem SR.ne {S : Store} (h : SR K mg ι S H) {n m : Nat} {a b : Addr} (e : ι[n]? = some a) (f : ι[m]? = some b) (hn : n ≠ m) : a ≠ b := by
  intro z; subst z
  obtain ⟨h1, e1⟩ := List.getElem?_eq_some_iff.mp e
  obtain ⟨h2, e2⟩ := List.getElem?_eq_some_iff.mp f
  exact hn ((List.getElem_inj h.nd).mp (e1.trans e2.symm))
end
end DL
namespace DL
open PySem PySem.Spec PyProof.Rows L2

/-! ### more of the state -/
section
variable {K : PySem.W.Frag} {mg : Str → Option Value} {ι ι' ι2 : List Addr} {H H' H2 : Hp}
theorem Mw.rkv (m : Mw ι H ι' H') {κ : Type} : ∀ {ds : List (κ × D)} {vs : List (κ × V)}, Rkv K ι H ds vs → Rkv K ι' H' ds vs
  | [], _, h => h
  | (k, d) :: ds, vs, h => by
    obtain ⟨v, r, e, h1, h2⟩ := h
    exact ⟨v, r, e, m.rp h1, m.rkv h2⟩
/-- an object whose place stands -/
theorem Mw.or (m : Mw ι H ι' H') {o : O} {a : Addr} (e : H' a = H a) (h : OR K ι H mg o a) : OR K ι' H' mg o a := by
  cases o with
  | lst l => obtain ⟨vs, h1, h2⟩ := h; exact ⟨vs, e.trans h1, m.rps h2⟩
  | dk l => obtain ⟨vs, h1, h2⟩ := h; exact ⟨vs, e.trans h1, m.rkv h2⟩
  | dt l => obtain ⟨vs, h1, h2⟩ := h; exact ⟨vs, e.trans h1, m.rkv h2⟩
  | ins c fs => obtain ⟨C, dx, vs, h0, h1, h2⟩ := h; exact ⟨C, dx, vs, h0, e.trans h1, m.rkv h2⟩
  | exn c fs =>
    obtain ⟨C, h0, h⟩ := h
    rcases h with ⟨h1, h2⟩ | ⟨od, dx, vs, h1, h2, h3⟩
    · exact ⟨C, h0, .inl ⟨h1, e.trans h2⟩⟩
    · exact ⟨C, h0, .inr ⟨od, dx, vs, e.trans h1, m.frzs _ _ _ h2, m.rkv h3⟩⟩
theorem Mn.rkv (m : Mn ι H ι' H') {κ : Type} {ds : List (κ × D)} {vs : List (κ × V)} (h : Rkv K ι H ds vs) : Rkv K ι' H' ds vs := m.w.rkv h
theorem Mn.or (m : Mn ι H ι' H') {o : O} {a : Addr} (e : H' a = H a) (h : OR K ι H mg o a) : OR K ι' H' mg o a := m.w.or e h
theorem OR.some {o : O} {a : Addr} (h : OR K ι H mg o a) : ∃ u, H a = some u ∧ (∀ xs, u ≠ .tup xs) ∧ ∀ o' u', u ≠ .frz o' u' := by
  cases o with
  | lst l => obtain ⟨vs, h1, h2⟩ := h; exact ⟨_, h1, (by intro _ z; cases z), (by intro _ _ z; cases z)⟩
  | dk l => obtain ⟨vs, h1, h2⟩ := h; exact ⟨_, h1, (by intro _ z; cases z), (by intro _ _ z; cases z)⟩
  | dt l => obtain ⟨vs, h1, h2⟩ := h; exact ⟨_, h1, (by intro _ z; cases z), (by intro _ _ z; cases z)⟩
  | ins c fs => obtain ⟨C, dx, vs, h0, h1, h2⟩ := h; exact ⟨_, h1, (by intro _ z; cases z), (by intro _ _ z; cases z)⟩
  | exn c fs =>
    obtain ⟨C, h0, h⟩ := h
    rcases h with ⟨h1, h2⟩ | ⟨od, dx, vs, h1, h2, h3⟩
    · exact ⟨_, h2, fun _ => exo_tup, fun _ _ => exo_frz⟩
    · exact ⟨_, h1, fun _ => exo_tup, fun _ _ => exo_frz⟩
theorem SR.mem {S : Store} (h : SR K mg ι S H) {n : Nat} {a : Addr} (e : ι[n]? = some a) : a ∈ ι := List.mem_of_getElem? e
/-- a thing laid at a free place -/
theorem Mn.fresh {p : Addr} {u : HO} (hp : H p = none) : Mn ι H ι (upd H p u) :=
  ⟨⟨[], by simp, by simp⟩, fun a h => by
    by_cases e : a = p
    · subst e; rw [upd_same]; simp
    · rw [upd_ne e]; exact h, fun a xs h => by rw [upd_ne (ne_of_none h hp)]; exact h, fun a o u' h => by rw [upd_ne (ne_of_none h hp)]; exact h, fun a o h _ => by rw [upd_ne (ne_of_none h hp)]; exact h⟩
theorem SR.fresh {S : Store} (h : SR K mg ι S H) {p : Addr} {u : HO} (hp : H p = none) : SR K mg ι S (upd H p u) := by
  have ne : ∀ a ∈ ι, a ≠ p := fun a ha z => by subst z; exact (h.occ a ha).1 hp
  refine ⟨h.nd, h.len, fun a ha => by rw [upd_ne (ne a ha)]; exact h.occ a ha, fun n o e => ?_⟩
  obtain ⟨a, e1, r⟩ := h.obj n o e
  exact ⟨a, e1, (Mn.fresh hp).or (upd_ne (ne a (h.mem e1))) r⟩
/-- a thing that is no object of the store is written -/
theorem Mw.other {p : Addr} {u w : HO} (hp : H p = some w) (ht : ∀ xs, w ≠ .tup xs) (hf : ∀ o x, w ≠ .frz o x) : Mw ι H ι (upd H p u) :=
  ⟨⟨[], by simp⟩, fun a xs h => by rw [upd_ne (fun z => by subst z; rw [hp] at h; exact ht xs (Option.some.inj h))]; exact h, fun a o x h => by rw [upd_ne (fun z => by subst z; rw [hp] at h; exact hf o x (Option.some.inj h))]; exact h⟩
theorem SR.other {S : Store} (h : SR K mg ι S H) {p : Addr} {u w : HO} (hp : H p = some w) (ht : ∀ xs, w ≠ .tup xs) (hf : ∀ o x, w ≠ .frz o x) (hn : p ∉ ι) : SR K mg ι S (upd H p u) := by
  have ne : ∀ a ∈ ι, a ≠ p := fun a ha z => hn (z ▸ ha)
  refine ⟨h.nd, h.len, fun a ha => by rw [upd_ne (ne a ha)]; exact h.occ a ha, fun n o e => ?_⟩
  obtain ⟨a, e1, r⟩ := h.obj n o e
  exact ⟨a, e1, (Mw.other hp ht hf).or (upd_ne (ne a (h.mem e1))) r⟩
theorem Mn.other {H0 : Hp} {ι0 : List Addr} {p : Addr} {u : HO} (m : Mn ι0 H0 ι H) (hp : H0 p = none) : Mn ι0 H0 ι (upd H p u) := by
  refine ⟨m.pre, fun a ha => ?_, fun a xs h => ?_, fun a o x h => ?_, fun a o h hi => ?_⟩
  · by_cases e : a = p
    · subst e; exact absurd hp ha
    · rw [upd_ne e]; exact m.live a ha
  · rw [upd_ne (ne_of_none h hp)]; exact m.tups a xs h
  · rw [upd_ne (ne_of_none h hp)]; exact m.frzs a o x h
  · rw [upd_ne (ne_of_none h hp)]; exact m.kept a o h hi
/-- a new object of the store -/
theorem Mn.new {p : Addr} {u : HO} (hp : H p = none) : Mn ι H (ι ++ [p]) (upd H p u) :=
  ⟨⟨[p], rfl, by simp [hp]⟩, (Mn.fresh (ι := ι) hp).live, (Mn.fresh (ι := ι) hp).tups, (Mn.fresh (ι := ι) hp).frzs, (Mn.fresh (ι := ι) hp).kept⟩
theorem SR.new {S : Store} (h : SR K mg ι S H) {p : Addr} {u : HO} {o : O} (hp : H p = none) (ht : ∀ xs, u ≠ .tup xs) (r : OR K (ι ++ [p]) (upd H p u) mg o p) : SR K mg (ι ++ [p]) (S ++ [some o]) (upd H p u) := by
  have ne : ∀ a ∈ ι, a ≠ p := fun a ha z => by subst z; exact (h.occ a ha).1 hp
  refine ⟨?_, by simp [h.len], fun a ha => ?_, fun n o' e => ?_⟩
  · rw [List.nodup_append]
    exact ⟨h.nd, by simp, fun a ha b hb => by simp at hb; subst hb; exact ne a ha⟩
  · rcases List.mem_append.mp ha with ha | ha
    · rw [upd_ne (ne a ha)]; exact h.occ a ha
    · simp at ha
      subst ha
      rw [upd_same]
      exact ⟨by simp, fun xs z => ht xs (Option.some.inj z)⟩
  · by_cases hn : n < S.length
    · rw [List.getElem?_append_left hn] at e
      obtain ⟨a, e1, r1⟩ := h.obj n o' e
      exact ⟨a, (Mn.new (u := u) hp).ix e1, (Mn.new hp).or (upd_ne (ne a (h.mem e1))) r1⟩
    · rw [List.getElem?_append_right (by omega)] at e
      have hz : n - S.length = 0 := by
        cases q : n - S.length with
        | zero => rfl
        | succ k => rw [q] at e; simp at e
      rw [hz] at e
      simp at e
      subst e
      refine ⟨p, ?_, r⟩
      have : n = ι.length := by have := h.len; omega
      subst this
      simp
/-- an object of the store is written -/
theorem Mn.write {S : Store} (h : SR K mg ι S H) {n : Nat} {a : Addr} {o : O} {u : HO} (e : ι[n]? = some a) (ho : S[n]? = some (some o)) : Mn ι H ι (upd H a u) := by
  obtain ⟨b, e1, r⟩ := h.obj n o ho
  rw [e] at e1
  cases e1
  obtain ⟨w, hw, h1, h2⟩ := r.some
  refine ⟨⟨[], by simp, by simp⟩, fun b hb => ?_, fun b xs hb => ?_, fun b o' u' hb => ?_, fun b o' hb hm => ?_⟩
  · by_cases q : b = a
    · subst q; rw [upd_same]; simp
    · rw [upd_ne q]; exact hb
  · rw [upd_ne (fun q => by subst q; rw [hw] at hb; exact h1 xs (Option.some.inj hb))]; exact hb
  · rw [upd_ne (fun q => by subst q; rw [hw] at hb; exact h2 o' u' (Option.some.inj hb))]; exact hb
  · rw [upd_ne (fun q => by subst q; exact hm (h.mem e))]; exact hb
theorem SR.write {S : Store} (h : SR K mg ι S H) {n : Nat} {a : Addr} {o : O} {o' : Option O} {u : HO} (e : ι[n]? = some a) (ho : S[n]? = some (some o)) (ht : ∀ xs, u ≠ .tup xs)
    (r : ∀ x, o' = some x → OR K ι (upd H a u) mg x a) : SR K mg ι (S.set n o') (upd H a u) := by
  refine ⟨h.nd, by simp [h.len], fun b hb => ?_, fun m x hx => ?_⟩
  · by_cases q : b = a
    · subst q; rw [upd_same]; exact ⟨by simp, fun xs z => ht xs (Option.some.inj z)⟩
    · rw [upd_ne q]; exact h.occ b hb
  · by_cases q : m = n
    · subst q
      have hm : m < S.length := (List.getElem?_eq_some_iff.mp ho).1
      rw [List.getElem?_set_self hm] at hx
      exact ⟨a, e, r x (Option.some.inj hx)⟩
    · rw [List.getElem?_set_ne (Ne.symm q)] at hx
      obtain ⟨b, e1, r1⟩ := h.obj m x hx
      exact ⟨b, e1, (Mn.write h e ho).or (upd_ne (h.ne e1 e q)) r1⟩
end

/-! ### what is wanted behind -/
section
variable (K : PySem.W.Frag) (mg : Str → Option Value)
def Po {α : Type} (ι : List Addr) (H : Hp) (r : R α) (k : α → Store → List Addr → Hp → Prop) (e : Exc → Store → List Addr → Hp → Prop) : Prop := match r with
  | .ok a S' => ∀ ι' H', Mn ι H ι' H' → SR K mg ι' S' H' → k a S' ι' H'
  | .err x S' => ∀ ι' H', Mn ι H ι' H' → SR K mg ι' S' H' → e x S' ι' H'
  | .bad => False
end
section
variable {K : PySem.W.Frag} {mg : Str → Option Value} {ι ι' ι2 : List Addr} {H H' H2 : Hp} {α β : Type}
theorem Po.from {r : R α} {k : α → Store → List Addr → Hp → Prop} {e : Exc → Store → List Addr → Hp → Prop} (m : Mn ι H ι' H') (h : Po K mg ι H r k e) : Po K mg ι' H' r k e := by
  cases r with
  | ok a S => exact fun ι2 H2 m2 s2 => h ι2 H2 (m.trans m2) s2
  | err a S => exact fun ι2 H2 m2 s2 => h ι2 H2 (m.trans m2) s2
  | bad => exact h
theorem Po.imp {r : R α} {k k' : α → Store → List Addr → Hp → Prop} {e e' : Exc → Store → List Addr → Hp → Prop} (h : Po K mg ι H r k e) (hk : ∀ a S' ι' H', Mn ι H ι' H' → SR K mg ι' S' H' → k a S' ι' H' → k' a S' ι' H')
    (he : ∀ x S' ι' H', Mn ι H ι' H' → SR K mg ι' S' H' → e x S' ι' H' → e' x S' ι' H') : Po K mg ι H r k' e' := by
  cases r with
  | ok a S => exact fun ι2 H2 m2 s2 => hk _ _ _ _ m2 s2 (h ι2 H2 m2 s2)
  | err a S => exact fun ι2 H2 m2 s2 => he _ _ _ _ m2 s2 (h ι2 H2 m2 s2)
  | bad => exact h
theorem Po.bnd {m : M α} {f : α → M β} {S : Store} {k : β → Store → List Addr → Hp → Prop} {e : Exc → Store → List Addr → Hp → Prop} (h : Po K mg ι H (bnd m f S) k e) :
    Po K mg ι H (m S) (fun a S1 ι1 H1 => Po K mg ι1 H1 (f a S1) k e) e := by
  unfold DL.bnd at h
  cases q : m S with
  | ok a S1 => rw [q] at h; exact fun ι1 H1 m1 s1 => h.from m1
  | err x S1 => rw [q] at h; exact h
  | bad => rw [q] at h; exact h
theorem Po.ok {a : α} {S : Store} {k : α → Store → List Addr → Hp → Prop} {e : Exc → Store → List Addr → Hp → Prop} (h : Po K mg ι H (.ok a S) k e) (s : SR K mg ι S H) : k a S ι H := h ι H Mn.refl s
theorem Po.bad {k : α → Store → List Addr → Hp → Prop} {e : Exc → Store → List Addr → Hp → Prop} (h : Po K mg ι H (.bad : R α) k e) {P : Prop} : P := False.elim h
end

/-! ### the judgements -/
/-- how an exception lies -/
def XR (K : PySem.W.Frag) (mg : Str → Option Value) (ι : List Addr) (H : Hp) (x : Exc) (c : Value) (d : Option Addr) : Prop :=
  ∃ C, mg x.cls = some (.ref C) ∧ c = .ref C ∧ (x.fs = [] ∧ d = none ∨ ∃ dd vs, d = some dd ∧ H dd = some (.xd vs) ∧ Rkv K ι H x.fs vs)
abbrev WE := Value → Option Addr → L2.St → Hp → Prop
/-- the heap may be frozen at what came -/
def Fz (Q : VK) : VK := fun v H => Q v H ∨ ∃ a u, v = .ref a ∧ H a = some u ∧ Mut (some u) ∧ ∀ o, Q v (upd H a (.frz o u))
abbrev kE (K : PySem.W.Frag) (Q : VK) : D → Store → List Addr → Hp → Prop := fun d _ ι' H' => ∀ v, Rp K ι' H' d v → Q v H'
abbrev kA (K : PySem.W.Frag) (Q : List V → Hp → Prop) : List D → Store → List Addr → Hp → Prop := fun d _ ι' H' => ∀ v, Rps K ι' H' d v → Q v H'
abbrev kT (Q : Bool → Hp → Prop) : Bool → Store → List Addr → Hp → Prop := fun b _ _ H' => Q b H'
abbrev kX (K : PySem.W.Frag) (mg : Str → Option Value) (W : WE) (σ : L2.St) : Exc → Store → List Addr → Hp → Prop := fun x _ ι' H' => ∀ c d, XR K mg ι' H' x c d → W c d σ H'
def trE (K : PySem.W.Frag) (mg : Str → Option Value) (W : WE) (f : Frame → M D) : TE := fun σ H Q => ∃ ι fr S, SR K mg ι S H ∧ FR K ι fr σ H ∧ Po K mg ι H (f fr S) (kE K Q) (kX K mg W σ)
def trA (K : PySem.W.Frag) (mg : Str → Option Value) (W : WE) (f : Frame → M (List D)) : TA := fun σ H Q => ∃ ι fr S, SR K mg ι S H ∧ FR K ι fr σ H ∧ Po K mg ι H (f fr S) (kA K Q) (kX K mg W σ)
def trT (K : PySem.W.Frag) (mg : Str → Option Value) (W : WE) (f : Frame → M Bool) : TT := fun σ H Q => ∃ ι fr S, SR K mg ι S H ∧ FR K ι fr σ H ∧ Po K mg ι H (f fr S) (kT Q) (kX K mg W σ)
def DE (X : Cx) (W : WE) (f : Frame → M D) (e : Expr) : Prop := PE X e (trE X.K X.mg W f)
def DA (X : Cx) (W : WE) (f : Frame → M (List D)) (es : List Expr) : Prop := PA X es (trA X.K X.mg W f)
def DT (X : Cx) (W : WE) (f : Frame → M Bool) (e : Expr) : Prop := PT X e (trT X.K X.mg W f)
section
variable {X : Cx} {W : WE} {a b c e : Expr} {pos : Pos}
theorem EP.fz {pins : List (Addr × Obj)} {σ : L2.St} {Q : VK} {u : Value} {s : Shared} (h : EP X pins σ (Fz Q) u s) : EP X pins σ Q u s := by
  obtain ⟨v, H', I, r, q⟩ := h
  rcases q with q | ⟨a, w, rfl, ha, mu, q⟩
  · exact ⟨v, H', I, r, q⟩
  · obtain ⟨o, J⟩ := I.lock ha mu
    exact ⟨.ref a, _, J, r, q o⟩
theorem DE.of {t : TE} {f : Frame → M D} (h : PE X e t) (hm : ∀ σ H Q ι fr S, SR X.K X.mg ι S H → FR X.K ι fr σ H → Po X.K X.mg ι H (f fr S) (kE X.K Q) (kX X.K X.mg W σ) → t σ H (Fz Q)) : DE X W f e := by
  refine ⟨fun pins s σ H Q I ht => ?_⟩
  obtain ⟨ι, fr, S, h1, h2, h3⟩ := ht
  exact thn (h.run pins s σ H _ I (hm σ H Q ι fr S h1 h2 h3)) fun u s' q => EP.fz q
theorem DT.of {t : TT} {f : Frame → M Bool} (h : PT X e t) (hm : ∀ σ H Q ι fr S, SR X.K X.mg ι S H → FR X.K ι fr σ H → Po X.K X.mg ι H (f fr S) (kT Q) (kX X.K X.mg W σ) → t σ H Q) : DT X W f e := by
  refine ⟨fun pins s σ H Q I ht => ?_⟩
  obtain ⟨ι, fr, S, h1, h2, h3⟩ := ht
  exact h.run pins s σ H _ I (hm σ H Q ι fr S h1 h2 h3)
theorem DA.of {t : TA} {f : Frame → M (List D)} {es : List Expr} (h : PA X es t) (hm : ∀ σ H Q ι fr S, SR X.K X.mg ι S H → FR X.K ι fr σ H → Po X.K X.mg ι H (f fr S) (kA X.K Q) (kX X.K X.mg W σ) → t σ H Q) : DA X W f es := by
  refine ⟨fun pos pins s σ H Q I ht => ?_⟩
  obtain ⟨ι, fr, S, h1, h2, h3⟩ := ht
  exact h.run pos pins s σ H _ I (hm σ H Q ι fr S h1 h2 h3)
end
end DL
namespace DL
open PySem PySem.Spec PyProof.Rows L2

/-! ### the operations on data -/
def oLst : Option (Option O) → Option (List D)
  | some (some (.lst l)) => some l
  | _ => none
theorem oLst_of {x : Option (Option O)} {l : List D} (h : oLst x = some l) : x = some (some (.lst l)) := by
  unfold oLst at h
  split at h
  · cases h; rfl
  · cases h
def lstL (S : Store) : D → Option (List D)
  | .lst l => some l
  | .ob n => oLst S[n]?
  | _ => none
def seqL (S : Store) : D → Option (List D)
  | .tup l => some l
  | .ctu l => some l
  | .ptu l => some l
  | d => lstL S d
def varF (i : Nat) : Frame → M D := fun fr S => match fr[i]? with
  | some (some d) => .ok d S
  | _ => .bad
def cstF (d : D) : Frame → M D := fun _ S => .ok d S
def binF (g : D → D → M D) (f h : Frame → M D) : Frame → M D := fun fr => bnd (f fr) fun x => bnd (h fr) fun y => g x y
def unF (g : D → M D) (f : Frame → M D) : Frame → M D := fun fr => bnd (f fr) g
def addD (x y : D) : M D := fun S => match x, y with
  | .int i, .int j => .ok (.int (i + j)) S
  | .str a, .str b => if a.length + b.length ≤ sizeLine then .ok (.str (a ++ b)) S else .bad
  | .tup l, .tup m => if l.length + m.length ≤ sizeLine then .ok (.tup (l ++ m)) S else .bad
  | x, y => match lstL S x, lstL S y with
    | some l, some m => if l.length + m.length ≤ sizeLine then .ok (.lst (l ++ m)) S else .bad
    | _, _ => .bad
def subD (x y : D) : M D := fun S => match x, y with
  | .int i, .int j => .ok (.int (i - j)) S
  | _, _ => .bad

section
variable {K : PySem.W.Frag} {mg : Str → Option Value} {ι ι' ι2 : List Addr} {H H' H2 : Hp}
theorem lst_at {S : Store} {d : D} {v : V} {l : List D} (s : SR K mg ι S H) (r : Rp K ι H d v) (h : lstL S d = some l) : ∃ a vs, v = .ref a ∧ SqL K H a vs ∧ Rps K ι H l vs := by
  cases d with
  | lst m => cases h; obtain ⟨a, vs, e, h1, h2⟩ := r; exact ⟨a, vs, e, h1.sq, h2⟩
  | ob n =>
    obtain ⟨a, e, h1⟩ := r
    obtain ⟨b, h2, vs, h3, h4⟩ := s.obj n _ (oLst_of (show oLst S[n]? = some l from h))
    rw [h1] at h2
    cases h2
    exact ⟨a, vs, e, .of h3, h4⟩
  | _ => cases h
theorem seq_at {S : Store} {d : D} {v : V} {l : List D} (s : SR K mg ι S H) (r : Rp K ι H d v) (h : seqL S d = some l) : ∃ a vs, v = .ref a ∧ (SqL K H a vs ∨ SqT K H a vs) ∧ Rps K ι H l vs := by
  cases d with
  | tup m => cases h; obtain ⟨a, vs, e, h1, h2⟩ := r; exact ⟨a, vs, e, .inr (.of h1), h2⟩
  | ctu m => cases h; obtain ⟨a, vs, e, h1, h2⟩ := r; exact ⟨a, vs, e, .inr h1, h2⟩
  | ptu m => cases h; obtain ⟨a, o, vs, e, h1, _, h2⟩ := r; exact ⟨a, vs, e, .inr (.inl (.inr ⟨o, h1⟩)), h2⟩
  | lst m => obtain ⟨a, vs, e, h1, h2⟩ := lst_at s r h; exact ⟨a, vs, e, .inl h1, h2⟩
  | ob m => obtain ⟨a, vs, e, h1, h2⟩ := lst_at s r h; exact ⟨a, vs, e, .inl h1, h2⟩
  | _ => cases h
end

/-! ### expressions -/
section
variable {X : Cx} {W : WE} {a b c e : Expr} {pos : Pos} {fa fb fc : Frame → M D}
theorem DE_var {i : Nat} {x : Str} (hN : X.N[i]? = some x) (hv : Vis X.env.scope x) (hd : (x == ("__debug__" : Str)) = false := by decide) (hcd : (x == ("__classdict__" : Str)) = false := by decide) : DE X W (varF i) (.Name x pos) := by
  refine DE.of (pe_var hN hv hd hcd) fun σ H Q ι fr S s f h => ?_
  unfold varF at h
  split at h
  · rename_i d hd
    obtain ⟨v, e, r⟩ := f.2 i d hd
    exact ⟨v, e, .inl (h.ok s v r)⟩
  · exact h.bad
theorem DE_cst {d : D} {v : V} (h : PE X e (tC v)) (r : ∀ ι H, Rp X.K ι H d v) : DE X W (cstF d) e :=
  DE.of h fun σ H Q ι fr S s f q => .inl (q.ok s v (r ι H))
theorem DE_int {i j} : DE X W (cstF (.int i)) (.Constant (.int i) j pos) := DE_cst pe_int fun _ _ => rfl
theorem DE_bl {b j} : DE X W (cstF (.bl b)) (.Constant (.bool b) j pos) := DE_cst pe_bl fun _ _ => rfl
theorem DE_str {x j} : DE X W (cstF (.str x)) (.Constant (.str x) j pos) := DE_cst pe_str fun _ _ => rfl

/-- an operation of two values, on data -/
def OpD (X : Cx) (W : WE) (f : Value → Value → Sem Value) (g : D → D → M D) : Prop :=
  ∃ r : R2, OpR X f r ∧ ∀ ι S H σ x y v u Q, SR X.K X.mg ι S H → Rp X.K ι H x v → Rp X.K ι H y u → Po X.K X.mg ι H (g x y S) (kE X.K Q) (kX X.K X.mg W σ) → r v u H (Fz Q)
theorem two_in {r : R2} {g : D → D → M D} (hr : ∀ ι S H σ x y v u Q, SR X.K X.mg ι S H → Rp X.K ι H x v → Rp X.K ι H y u → Po X.K X.mg ι H (g x y S) (kE X.K Q) (kX X.K X.mg W σ) → r v u H (Fz Q))
    {σ : L2.St} {H : Hp} {Q : VK} {ι : List Addr} {fr : Frame} {S : Store} (s : SR X.K X.mg ι S H) (f : FR X.K ι fr σ H) (h : Po X.K X.mg ι H (binF g fa fb fr S) (kE X.K Q) (kX X.K X.mg W σ)) :
    tOp r (trE X.K X.mg W fa) (trE X.K X.mg W fb) σ H (Fz Q) := by
  refine ⟨ι, fr, S, s, f, h.bnd.imp (fun x S1 ι1 H1 m1 s1 h1 v r1 => ?_) fun _ _ _ _ _ _ z => z⟩
  refine ⟨ι1, fr, S1, s1, m1.fr f, h1.bnd.imp (fun y S2 ι2 H2 m2 s2 h2 u r2 => ?_) fun _ _ _ _ _ _ z => z⟩
  exact hr ι2 S2 H2 σ x y v u Q s2 (m2.rp r1) r2 h2
theorem DE_bin {op : Operator} {g : D → D → M D} (ho : OpD X W (binaryOp op) g) (ha : DE X W fa a) (hb : DE X W fb b) : DE X W (binF g fa fb) (.BinOp a op b pos) := by
  obtain ⟨r, h1, h2⟩ := ho
  exact DE.of (pe_op h1 ha hb) fun σ H Q ι fr S s f h => two_in h2 s f h
theorem OpD_sub : OpD X W (binaryOp .Sub) subD := by
  refine ⟨_, op_sub, fun ι S H σ x y v u Q s r1 r2 h => ?_⟩
  unfold subD at h
  split at h
  · cases r1; cases r2
    exact ⟨_, _, rfl, rfl, .inl (h.ok s _ rfl)⟩
  · exact h.bad
/-- a list and a list -/
def rCatL (K : PySem.W.Frag) : R2 := fun x y H Q => ∃ a b xs ys, x = .ref a ∧ y = .ref b ∧ SqL K H a xs ∧ SqL K H b ys ∧ xs.length + ys.length ≤ sizeLine ∧ ∀ p, H p = none → Q (.ref p) (upd H p (.lst (xs ++ ys)))
theorem op_catL : OpR X (binaryOp .Add) (rCatL X.K) := by
  rintro pins s σ H x y v u Q I rx ry ⟨a, b, xs, ys, rfl, rfl, ha, hb, hz, q⟩
  obtain rfl : v = Value.ref a := rx
  obtain rfl : u = Value.ref b := ry
  obtain ⟨i1, r1, ⟨⟨cl1, dd1, da1, sl1⟩, n1, g1, c1, k1, d1⟩, _⟩ := I.list ha
  obtain ⟨i2, r2, ⟨⟨cl2, dd2, da2, sl2⟩, n2, g2, c2, k2, d2⟩, _⟩ := I.list hb
  simp only at c1 k1 d1 c2 k2 d2
  subst c1 k1 d1 c2 k2 d2
  have l1 := r1.length
  have l2 := r2.length
  refine concat_meets ⟨_, g1, rfl⟩ ⟨_, g2, rfl⟩ noFill_list_add seq_list_add PySem.F.slot_list_add PySem.F.entry_list_add (PySem.F.args_list_add_2 _ _)
    (list_addW a b i1.toArray i2.toArray n1 n2 none none sl1 sl2 (by rw [List.size_toArray, List.size_toArray]; omega)) ⟨g1, g2, ?_⟩
  rw [show i1.toArray ++ i2.toArray = (i1 ++ i2).toArray by simp]
  exact ⟨V.ref s.heap.objs.size, _, I.lnew (t' := s.toks) (r1.append r2) (by rw [List.length_append]; omega), rfl, q _ I.fresh⟩
/-- a new frozen list -/
theorem fz_list {ι : List Addr} {S : Store} {H : Hp} {Q : VK} {l : List D} {vs : List V} {e : Exc → Store → List Addr → Hp → Prop} (s : SR X.K X.mg ι S H) (r : Rps X.K ι H l vs) (h : Po X.K X.mg ι H (.ok (.lst l) S) (kE X.K Q) e)
    (p : Addr) (hp : H p = none) : Fz Q (.ref p) (upd H p (.lst vs)) := by
  refine .inr ⟨p, _, rfl, upd_same, trivial, fun o => ?_⟩
  rw [upd_upd]
  have m : Mn ι H ι (upd H p (.frz o (.lst vs))) := Mn.fresh hp
  exact h _ _ m (s.fresh hp) _ ⟨p, vs, rfl, .inl ⟨o, upd_same⟩, m.rps r⟩
theorem nw_tup {ι : List Addr} {S : Store} {H : Hp} {Q : VK} {l : List D} {vs : List V} {e : Exc → Store → List Addr → Hp → Prop} (s : SR X.K X.mg ι S H) (r : Rps X.K ι H l vs) (h : Po X.K X.mg ι H (.ok (.tup l) S) (kE X.K Q) e)
    (p : Addr) (hp : H p = none) : Fz Q (.ref p) (upd H p (.tup vs)) := by
  have m : Mn ι H ι (upd H p (.tup vs)) := Mn.fresh hp
  exact .inl (h _ _ m (s.fresh hp) _ ⟨p, vs, rfl, upd_same, m.rps r⟩)
theorem OpD_add : OpD X W (binaryOp .Add) addD := by
  refine ⟨_, op_add.or (op_add_str.or (op_catA.or op_catL)), fun ι S H σ x y v u Q s r1 r2 h => ?_⟩
  unfold addD at h
  split at h
  · cases r1; cases r2
    exact .inl ⟨_, _, rfl, rfl, .inl (h.ok s _ rfl)⟩
  · cases r1; cases r2
    split at h
    · rename_i hl
      exact .inr (.inl ⟨_, _, rfl, rfl, hl, .inl (h.ok s _ rfl)⟩)
    · exact h.bad
  · rename_i l m
    obtain ⟨a, vs, rfl, ha, ra⟩ := r1
    obtain ⟨b, ws, rfl, hb, rb⟩ := r2
    split at h
    · rename_i hl
      have e1 := ra.length
      have e2 := rb.length
      refine .inr (.inr (.inl ⟨a, b, vs, ws, rfl, rfl, .of ha, .of hb, by omega, fun z => ?_, fun z z' => ?_, fun z z' p hp => nw_tup s (ra.app rb) h p hp⟩))
      · subst z
        have : l = [] := by cases l with | nil => rfl | cons _ _ => simp at e1
        subst this
        exact .inl (h.ok s _ ⟨b, ws, rfl, hb, rb⟩)
      · subst z'
        have : m = [] := by cases m with | nil => rfl | cons _ _ => simp at e2
        subst this
        rw [List.append_nil] at h
        exact .inl (h.ok s _ ⟨a, vs, rfl, ha, ra⟩)
    · exact h.bad
  · split at h
    · rename_i l m h1 h2
      obtain ⟨a, vs, rfl, ha, ra⟩ := lst_at s r1 h1
      obtain ⟨b, ws, rfl, hb, rb⟩ := lst_at s r2 h2
      split at h
      · rename_i hl
        have e1 := ra.length
        have e2 := rb.length
        exact .inr (.inr (.inr ⟨a, b, vs, ws, rfl, rfl, ha, hb, by omega, fz_list s (ra.app rb) h⟩))
      · exact h.bad
    · exact h.bad
end

/-! ### data as the library reads it -/
mutual
def py : D → Option PyData
  | .non => some .none
  | .bl b => some (.bool b)
  | .int i => some (.int i)
  | .str x => some (.str x)
  | .tup l => (pys l).map .tuple
  | .ctu l => (pys l).map .tuple
  | .ptu l => (pys l).map .tuple
  | .lst l => (pys l).map .list
  | .emp => some (.dict [])
  | .ob _ => none
def pys : List D → Option (List PyData)
  | [] => some []
  | d :: ds => match py d, pys ds with
    | some p, some ps => some (p :: ps)
    | _, _ => none
end
def pyS (S : Store) : D → Option PyData
  | .ob n => match oLst S[n]? with
    | some l => (pys l).map .list
    | none => none
  | d => py d
section
variable {X : Cx} {pins : List (Addr × Obj)} {σ : L2.St} {H : Hp} {s : Shared} {ι : List Addr}
mutual
theorem py_reads (I : Inv X pins σ H s) : ∀ (d : D) (v : V) (u : Value) (p : PyData), Rp X.K ι H d v → RelV v u → py d = some p → ∃ as, Reads s.heap u p as
  | .non, v, u, p, r, ru, h => by cases r; cases ru; cases h; exact ⟨_, .none⟩
  | .bl b, v, u, p, r, ru, h => by cases r; cases ru; cases h; exact ⟨_, .bool b⟩
  | .int i, v, u, p, r, ru, h => by cases r; obtain ⟨t, rfl⟩ := ru; cases h; exact ⟨_, .int i t⟩
  | .str x, v, u, p, r, ru, h => by cases r; obtain ⟨t, rfl⟩ := ru; cases h; exact ⟨_, .str x t⟩
  | .tup l, v, u, p, r, ru, h => by
    obtain ⟨a, vs, rfl, ha, ra⟩ := r
    obtain rfl : u = Value.ref a := ru
    obtain ⟨ps, hp, rfl⟩ : ∃ ps, pys l = some ps ∧ p = .tuple ps := by
      unfold py at h
      cases q : pys l with
      | none => rw [q] at h; cases h
      | some ps => rw [q] at h; exact ⟨ps, rfl, (Option.some.inj h).symm⟩
    obtain ⟨its, rv, ⟨o, g, c, n, dd⟩, _⟩ := I.tuple (show SqT X.K H a vs from .of ha)
    obtain ⟨as, q⟩ := pys_reads I l vs its ps ra rv hp
    exact ⟨_, .tuple g c dd (by simpa using q)⟩
  | .ctu l, v, u, p, r, ru, h => by
    obtain ⟨a, vs, rfl, ha, ra⟩ := r
    obtain rfl : u = Value.ref a := ru
    obtain ⟨ps, hp, rfl⟩ : ∃ ps, pys l = some ps ∧ p = .tuple ps := by
      unfold py at h
      cases q : pys l with
      | none => rw [q] at h; cases h
      | some ps => rw [q] at h; exact ⟨ps, rfl, (Option.some.inj h).symm⟩
    obtain ⟨its, rv, ⟨o, g, c, n, dd⟩, _⟩ := I.tuple ha
    obtain ⟨as, q⟩ := pys_reads I l vs its ps ra rv hp
    exact ⟨_, .tuple g c dd (by simpa using q)⟩
  | .ptu l, v, u, p, r, ru, h => by
    obtain ⟨a, oo, vs, rfl, ha, _, ra⟩ := r
    obtain rfl : u = Value.ref a := ru
    obtain ⟨ps, hp, rfl⟩ : ∃ ps, pys l = some ps ∧ p = .tuple ps := by
      unfold py at h
      cases q : pys l with
      | none => rw [q] at h; cases h
      | some ps => rw [q] at h; exact ⟨ps, rfl, (Option.some.inj h).symm⟩
    obtain ⟨its, rv, ⟨o, g, c, n, dd⟩, _⟩ := I.tuple (show SqT X.K H a vs from .inl (.inr ⟨oo, ha⟩))
    obtain ⟨as, q⟩ := pys_reads I l vs its ps ra rv hp
    exact ⟨_, .tuple g c dd (by simpa using q)⟩
  | .lst l, v, u, p, r, ru, h => by
    obtain ⟨a, vs, rfl, ha, ra⟩ := r
    obtain rfl : u = Value.ref a := ru
    obtain ⟨ps, hp, rfl⟩ : ∃ ps, pys l = some ps ∧ p = .list ps := by
      unfold py at h
      cases q : pys l with
      | none => rw [q] at h; cases h
      | some ps => rw [q] at h; exact ⟨ps, rfl, (Option.some.inj h).symm⟩
    obtain ⟨its, rv, ⟨o, n, g, c, _, dd⟩, _⟩ := I.list ha.sq
    obtain ⟨as, q⟩ := pys_reads I l vs its ps ra rv hp
    exact ⟨_, .list g c dd (by simpa using q)⟩
  | .emp, v, u, p, r, ru, h => by
    obtain ⟨a, o, rfl, ha⟩ := r
    obtain rfl : u = Value.ref a := ru
    cases h
    obtain ⟨_, _, _, vs, kv, ob, es, ep, g, ex, hd, _, he, _⟩ := I.hok a _ ha
    cases kv
    have z : es.toList = [] := by
      revert he
      generalize es.toList = el
      intro he
      cases he
      rfl
    exact ⟨_, .dict (n := ep) g ex.1 hd (by rw [z]; exact .nil) (by rw [z]; exact .nil)⟩
  | .ob n, v, u, p, r, ru, h => by cases h
theorem pys_reads (I : Inv X pins σ H s) : ∀ (l : List D) (vs : List V) (us : List Value) (ps : List PyData), Rps X.K ι H l vs → Vals vs us → pys l = some ps → ∃ as, ReadsAll s.heap us ps as
  | [], vs, us, ps, r, ru, h => by cases r; cases ru; cases h; exact ⟨_, .nil⟩
  | d :: ds, vs, us, ps, r, ru, h => by
    obtain ⟨v, w, rfl, r1, r2⟩ := r
    cases ru with
    | cons q1 q2 =>
      unfold pys at h
      cases e1 : py d with
      | none => rw [e1] at h; cases h
      | some p =>
        cases e2 : pys ds with
        | none => rw [e1, e2] at h; cases h
        | some qs =>
          rw [e1, e2] at h
          cases h
          obtain ⟨as, h1⟩ := py_reads I d v _ p r1 q1 e1
          obtain ⟨bs, h2⟩ := pys_reads I ds w _ qs r2 q2 e2
          exact ⟨_, .cons h1 h2⟩
end
end
end DL
namespace DL
open PySem PySem.Spec PyProof.Rows L2
open SeqAt (shaped)

/-! ### comparisons, tests of membership -/
def eqD (x y : D) : M D := fun S => match x, y with
  | .str a, .str b => .ok (.bl (decide (a = b))) S
  | x, y => match pyS S x, pyS S y with
    | some p, some q => if shaped p = true ∧ shaped q = true then .ok (.bl (PyData.eqv p q)) S else .bad
    | _, _ => .bad
def neD (x y : D) : M D := fun S => match x, y with
  | .str a, .str b => .ok (.bl (!decide (a = b))) S
  | x, y => match pyS S x, pyS S y with
    | some p, some q => if shaped p = true ∧ shaped q = true then .ok (.bl (!PyData.eqv p q)) S else .bad
    | _, _ => .bad
def strIn (a b : Str) : Bool := !(Builtin.Str.occurrences b a 0 b.length 1).isEmpty
/-- the items of what is searched -/
def itemsOf : PyData → Option (List PyData)
  | .list ds => some ds
  | .tuple ds => some ds
  | _ => none
def inD (x y : D) : M D := fun S => match x, y with
  | .str a, .str b => .ok (.bl (strIn a b)) S
  | x, y => match pyS S x, pyS S y with
    | some p, some q => if shaped p = true ∧ shaped q = true then (match itemsOf q with
      | some ds => .ok (.bl (ds.any fun z => PyData.eqv z p)) S
      | none => .bad) else .bad
    | _, _ => .bad
def notInD (x y : D) : M D := fun S => match x, y with
  | .str a, .str b => .ok (.bl (!strIn a b)) S
  | x, y => match pyS S x, pyS S y with
    | some p, some q => if shaped p = true ∧ shaped q = true then (match itemsOf q with
      | some ds => .ok (.bl (!ds.any fun z => PyData.eqv z p)) S
      | none => .bad) else .bad
    | _, _ => .bad
def ltD (x y : D) : M D := fun S => match x, y with
  | .int i, .int j => .ok (.bl (decide (i < j))) S
  | .str a, .str b => .ok (.bl (decide (a.cps.toList < b.cps.toList))) S
  | _, _ => .bad
def leD (x y : D) : M D := fun S => match x, y with
  | .int i, .int j => .ok (.bl (decide (i ≤ j))) S
  | _, _ => .bad
def gtD (x y : D) : M D := fun S => match x, y with
  | .int i, .int j => .ok (.bl (decide (j < i))) S
  | _, _ => .bad
def geD (x y : D) : M D := fun S => match x, y with
  | .int i, .int j => .ok (.bl (decide (j ≤ i))) S
  | _, _ => .bad
def isND (x y : D) : M D := fun S => match x, y with
  | .non, .non => .ok (.bl true) S
  | .bl a, .bl b => .ok (.bl (decide (a = b))) S
  | _, .non => .ok (.bl false) S
  | _, _ => .bad
def notND (x y : D) : M D := fun S => match x, y with
  | .non, .non => .ok (.bl false) S
  | .bl a, .bl b => .ok (.bl (!decide (a = b))) S
  | _, .non => .ok (.bl true) S
  | _, _ => .bad
noncomputable def mulD (x y : D) : M D := fun S => match x, y with
  | .int i, .int j => open Classical in if CMulW i j then .ok (.int (i * j)) S else .bad
  | _, _ => .bad
noncomputable def fdivD (x y : D) : M D := fun S => match x, y with
  | .int i, .int j => open Classical in if CDivW i j then .ok (.int (i / j)) S else .bad
  | _, _ => .bad
def modD (x y : D) : M D := fun S => match x, y with
  | .int i, .int j => if 0 < j then .ok (.int (i % j)) S else .bad
  | _, _ => .bad
def powD (x y : D) : M D := fun S => match x, y with
  | .int i, .int j => if 0 ≤ j ∧ j ≤ 1000000 ∧ i.natAbs < 2 ^ 64 then .ok (.int (i ^ j.toNat)) S else .bad
  | _, _ => .bad
def negD (x : D) : M D := fun S => match x with
  | .int i => .ok (.int (-i)) S
  | _ => .bad

section
variable {X : Cx} {W : WE} {a b c e : Expr} {pos : Pos} {fa fb fc : Frame → M D} {ι : List Addr} {H : Hp} {σ : L2.St} {s : Shared} {pins : List (Addr × Obj)}
theorem pyS_ob {S : Store} {n : Nat} : pyS S (.ob n) = (oLst S[n]?).bind fun l => (pys l).map PyData.list := by
  show (match oLst S[n]? with
    | some l => (pys l).map PyData.list
    | none => none) = _
  cases oLst S[n]? <;> rfl
theorem pyS_reads (I : Inv X pins σ H s) {S : Store} (hS : SR X.K X.mg ι S H) {d : D} {v : V} {u : Value} {p : PyData} (r : Rp X.K ι H d v) (ru : RelV v u) (h : pyS S d = some p) : ∃ as, Reads s.heap u p as := by
  cases d with
  | ob n =>
    rw [pyS_ob] at h
    cases q : oLst S[n]? with
    | none => rw [q] at h; cases h
    | some l =>
      rw [q] at h
      cases e : pys l with
      | none => simp only [e, Option.bind, Option.map] at h; cases h
      | some ps =>
        simp only [e, Option.bind, Option.map] at h
        cases h
        obtain ⟨a, vs, rfl, ha, ra⟩ := lst_at (d := .ob n) hS r q
        obtain rfl : u = Value.ref a := ru
        obtain ⟨its, rv, ⟨o, m, g, c, _, dd⟩, _⟩ := I.list ha
        obtain ⟨as, w⟩ := pys_reads I l vs its ps ra rv e
        exact ⟨_, .list g c dd (by simpa using w)⟩
  | _ => exact py_reads I _ v u p r ru h
theorem OpD.base {f : Value → Value → Sem Value} {g : D → D → M D}
    (h : ∀ pins s σ H x y v u (Q : VK) ι S dx dy e, Inv X pins σ H s → RelV x v → RelV y u → SR X.K X.mg ι S H → Rp X.K ι H dx x → Rp X.K ι H dy y → Po X.K X.mg ι H (g dx dy S) (kE X.K Q) e → wpAny (model X.prog X.w) X.A (f v u) (EP X pins σ Q) X.xe s) :
    OpD X W f g := by
  refine ⟨fun x y H Q => ∃ ι S dx dy e, SR X.K X.mg ι S H ∧ Rp X.K ι H dx x ∧ Rp X.K ι H dy y ∧ Po X.K X.mg ι H (g dx dy S) (kE X.K Q) e, ?_, ?_⟩
  · rintro pins s σ H x y v u Q I rx ry ⟨ι, S, dx, dy, e, h1, h2, h3, h4⟩
    exact h pins s σ H x y v u Q ι S dx dy e I rx ry h1 h2 h3 h4
  · intro ι S H σ x y v u Q h1 h2 h3 h4
    exact ⟨ι, S, x, y, _, h1, h2, h3, h4.imp (fun d _ _ _ _ _ z w r => .inl (z w r)) fun _ _ _ _ _ _ z => z⟩
theorem OpD_eq (hu : X.A.units + 64 < cLine) : OpD X W (compareOp .Eq) eqD := by
  refine OpD.base fun pins s σ H x y v u Q ι S dx dy e I rx ry hS r1 r2 h => ?_
  unfold eqD at h
  split at h
  · rename_i a b
    cases r1; cases r2
    refine op_eq pins s σ H _ _ v u Q I rx ry ⟨rfl, ?_⟩
    have q := h.ok hS (.bl (decide (a = b))) rfl
    simpa using q
  · split at h
    · rename_i p q hp hq
      split at h
      · rename_i hs
        obtain ⟨as, w1⟩ := pyS_reads I hS r1 rx hp
        obtain ⟨bs, w2⟩ := pyS_reads I hS r2 ry hq
        exact SeqAt.compareEq_shaped w1 w2 hs.1 hs.2 hu ⟨.bl _, H, I, rfl, h.ok hS _ rfl⟩
      · exact h.bad
    · exact h.bad
theorem OpD_ne (hu : X.A.units + 64 < cLine) : OpD X W (compareOp .NotEq) neD := by
  refine OpD.base fun pins s σ H x y v u Q ι S dx dy e I rx ry hS r1 r2 h => ?_
  unfold neD at h
  split at h
  · rename_i a b
    cases r1; cases r2
    refine op_ne pins s σ H _ _ v u Q I rx ry ⟨rfl, ?_⟩
    have q := h.ok hS (.bl (!decide (a = b))) rfl
    simpa using q
  · split at h
    · rename_i p q hp hq
      split at h
      · rename_i hs
        obtain ⟨as, w1⟩ := pyS_reads I hS r1 rx hp
        obtain ⟨bs, w2⟩ := pyS_reads I hS r2 ry hq
        exact SeqAt.compareNe_shaped w1 w2 hs.1 hs.2 hu ⟨.bl _, H, I, rfl, h.ok hS _ rfl⟩
      · exact h.bad
    · exact h.bad
theorem OpD_gt : OpD X W (compareOp .Gt) gtD := by
  refine ⟨_, op_gt, fun ι S H σ x y v u Q s r1 r2 h => ?_⟩
  unfold gtD at h
  split at h
  · cases r1; cases r2
    exact ⟨_, _, rfl, rfl, .inl (h.ok s _ rfl)⟩
  · exact h.bad
theorem OpD_ge : OpD X W (compareOp .GtE) geD := by
  refine ⟨_, op_ge, fun ι S H σ x y v u Q s r1 r2 h => ?_⟩
  unfold geD at h
  split at h
  · cases r1; cases r2
    exact ⟨_, _, rfl, rfl, .inl (h.ok s _ rfl)⟩
  · exact h.bad
theorem OpD_mod : OpD X W (binaryOp .Mod) modD := by
  refine ⟨_, op_mod, fun ι S H σ x y v u Q s r1 r2 h => ?_⟩
  unfold modD at h
  split at h
  · cases r1; cases r2
    split at h
    · rename_i hj
      exact ⟨_, _, rfl, rfl, hj, .inl (h.ok s _ rfl)⟩
    · exact h.bad
  · exact h.bad
theorem OpD_fdiv : OpD X W (binaryOp .FloorDiv) fdivD := by
  refine ⟨_, op_fdivW, fun ι S H σ x y v u Q s r1 r2 h => ?_⟩
  unfold fdivD at h
  split at h
  · cases r1; cases r2
    split at h
    · rename_i hj
      exact ⟨_, _, rfl, rfl, hj, .inl (h.ok s _ rfl)⟩
    · exact h.bad
  · exact h.bad
theorem OpD_pow : OpD X W (binaryOp .Pow) powD := by
  refine ⟨_, op_pow, fun ι S H σ x y v u Q s r1 r2 h => ?_⟩
  unfold powD at h
  split at h
  · cases r1; cases r2
    split at h
    · rename_i hj
      exact ⟨_, _, rfl, rfl, hj, .inl (h.ok s _ rfl)⟩
    · exact h.bad
  · exact h.bad
/-- one value's operation -/
def UnD (X : Cx) (W : WE) (f : Value → Sem Value) (g : D → M D) : Prop :=
  ∃ r : V → Hp → VK → Prop, UnR X f r ∧ ∀ ι S H σ x v Q, SR X.K X.mg ι S H → Rp X.K ι H x v → Po X.K X.mg ι H (g x S) (kE X.K Q) (kX X.K X.mg W σ) → r v H (Fz Q)
theorem DE_un {op : UnaryOp} {g : D → M D} (ho : UnD X W (unaryOp op) g) (ha : DE X W fa a) : DE X W (unF g fa) (.UnaryOp op a pos) := by
  obtain ⟨r, h1, h2⟩ := ho
  refine DE.of (pe_un h1 ha) fun σ H Q ι fr S s f h => ?_
  exact ⟨ι, fr, S, s, f, h.bnd.imp (fun x S1 ι1 H1 m1 s1 h1 v r1 => h2 ι1 S1 H1 σ x v Q s1 r1 h1) fun _ _ _ _ _ _ z => z⟩
theorem UnD_neg : UnD X W (unaryOp .USub) negD := by
  refine ⟨_, un_neg, fun ι S H σ x v Q s r1 h => ?_⟩
  unfold negD at h
  split at h
  · cases r1
    exact ⟨_, rfl, .inl (h.ok s _ rfl)⟩
  · exact h.bad
/-- a comparison -/
theorem DE_cmp {op : CmpOp} {g : D → D → M D} (ho : OpD X W (compareOp op) g) (ha : DE X W fa a) (hb : DE X W fb b) (hm : behindInMarks op b = false := by first | exact nomark _ | rfl) : DE X W (binF g fa fb) (.Compare a [op] [b] pos) := by
  obtain ⟨r, h1, h2⟩ := ho
  exact DE.of (pe_cmpR h1 ha hb hm) fun σ H Q ι fr S s f h => two_in h2 s f h
theorem OpD_mul : OpD X W (binaryOp .Mult) mulD := by
  refine ⟨_, op_mulW, fun ι S H σ x y v u Q s r1 r2 h => ?_⟩
  unfold mulD at h
  split at h
  · cases r1; cases r2
    split at h
    · rename_i hj
      exact ⟨_, _, rfl, rfl, hj, .inl (h.ok s _ rfl)⟩
    · exact h.bad
  · exact h.bad
theorem OpD_in (hu : X.A.units + 65 < cLine) : OpD X W (compareOp .In) inD := by
  refine OpD.base fun pins s σ H x y v u Q ι S dx dy e I rx ry hS r1 r2 h => ?_
  unfold inD at h
  split at h
  · cases r1; cases r2
    exact op_in_str pins s σ H _ _ v u Q I rx ry ⟨_, _, rfl, rfl, h.ok hS _ rfl⟩
  · split at h
    · rename_i p q hp hq
      split at h
      · rename_i hs
        obtain ⟨as, w1⟩ := pyS_reads I hS r1 rx hp
        obtain ⟨bs, w2⟩ := pyS_reads I hS r2 ry hq
        cases q with
        | list ds => exact SeqAt.in_list_reads w2 w1 (SeqAt.canLay_of_shaped hs.2) (SeqAt.canLay_of_shaped hs.1) (room_in_shaped hs.1 hu) ⟨.bl _, H, I, rfl, h.ok hS _ rfl⟩
        | tuple ds => exact SeqAt.in_tuple_reads w2 w1 (SeqAt.canLay_of_shaped hs.2) (SeqAt.canLay_of_shaped hs.1) (room_in_shaped hs.1 hu) ⟨.bl _, H, I, rfl, h.ok hS _ rfl⟩
        | _ => exact h.bad
      · exact h.bad
    · exact h.bad
theorem OpD_notin (hu : X.A.units + 65 < cLine) : OpD X W (compareOp .NotIn) notInD := by
  refine OpD.base fun pins s σ H x y v u Q ι S dx dy e I rx ry hS r1 r2 h => ?_
  unfold notInD at h
  split at h
  · cases r1; cases r2
    exact op_notin_str pins s σ H _ _ v u Q I rx ry ⟨_, _, rfl, rfl, h.ok hS _ rfl⟩
  · split at h
    · rename_i p q hp hq
      split at h
      · rename_i hs
        obtain ⟨as, w1⟩ := pyS_reads I hS r1 rx hp
        obtain ⟨bs, w2⟩ := pyS_reads I hS r2 ry hq
        cases q with
        | list ds => exact SeqAt.notIn_list_reads w2 w1 (SeqAt.canLay_of_shaped hs.2) (SeqAt.canLay_of_shaped hs.1) (room_in_shaped hs.1 hu) ⟨.bl _, H, I, rfl, h.ok hS _ rfl⟩
        | tuple ds => exact SeqAt.notIn_tuple_reads w2 w1 (SeqAt.canLay_of_shaped hs.2) (SeqAt.canLay_of_shaped hs.1) (room_in_shaped hs.1 hu) ⟨.bl _, H, I, rfl, h.ok hS _ rfl⟩
        | _ => exact h.bad
      · exact h.bad
    · exact h.bad
/-! ### truth, tests -/
def truF (d : D) : M Bool := fun S => match d with
  | .non => .ok false S
  | .bl b => .ok b S
  | .int i => .ok (i != 0) S
  | d => match seqL S d with
    | some l => .ok (!l.isEmpty) S
    | none => .bad
def tstF (f : Frame → M D) : Frame → M Bool := fun fr => bnd (f fr) truF
def notF (f : Frame → M Bool) : Frame → M Bool := fun fr => bnd (f fr) fun b => ret (!b)
def andF (f g : Frame → M Bool) : Frame → M Bool := fun fr => bnd (f fr) fun b => match b with
  | true => g fr
  | false => ret false
def orF (f g : Frame → M Bool) : Frame → M Bool := fun fr => bnd (f fr) fun b => match b with
  | true => ret true
  | false => g fr
def boolF (f : Frame → M Bool) : Frame → M D := fun fr => bnd (f fr) fun b => ret (.bl b)
def iteF (c : Frame → M Bool) (f g : Frame → M D) : Frame → M D := fun fr => bnd (c fr) fun b => match b with
  | true => f fr
  | false => g fr
theorem isEmpty_rps {l : List D} {vs : List V} (r : Rps X.K ι H l vs) : (!l.isEmpty) = !vs.isEmpty := by
  cases l with
  | nil => cases r; rfl
  | cons _ _ => obtain ⟨_, _, rfl, _⟩ := r; rfl
/-- an expression as a test, its value a bool -/
theorem DT_val {f : Frame → M D} (ha : DE X W f e) (he : ∀ whole, isTrue e X.env whole = (do let v ← whole; standAt e.pos; holding [v] (truthy v)) := by intro _; rfl) : DT X W (tstF f) e := by
  refine DT.of (pt_truth ha he) fun σ H Q ι fr S s fr' h => ?_
  refine ⟨ι, fr, S, s, fr', h.bnd.imp (fun d S1 ι1 H1 m1 s1 h1 v r1 => ?_) fun _ _ _ _ _ _ z => z⟩
  unfold truF at h1
  split at h1
  · cases r1; exact ⟨_, rfl, h1.ok s1⟩
  · cases r1; exact ⟨_, rfl, h1.ok s1⟩
  · cases r1; exact ⟨_, rfl, h1.ok s1⟩
  · split at h1
    · rename_i l hl
      obtain ⟨a, vs, rfl, hs, rs⟩ := seq_at s1 r1 hl
      have q : kT Q (!l.isEmpty) S1 ι1 H1 := h1.ok s1
      rw [isEmpty_rps rs] at q
      rcases hs with hs | hs
      · exact ⟨_, .inl ⟨vs, hs, rfl⟩, q⟩
      · exact ⟨_, .inr (.inl ⟨vs, hs, rfl⟩), q⟩
    · exact h1.bad
/-- an expression runs -/
theorem DE.step {α : Type} {f : Frame → M D} {g : D → M α} {fr : Frame} {S : Store} {k : α → Store → List Addr → Hp → Prop} (ha : DE X W f a) (I : Inv X pins σ H s) (hS : SR X.K X.mg ι S H) (hF : FR X.K ι fr σ H)
    (h : Po X.K X.mg ι H (bnd (f fr) g S) k (kX X.K X.mg W σ)) :
    wpAny (model X.prog X.w) X.A (eval a X.env) (fun u s1 => ∃ v H1 ι1 S1 d, Inv X pins σ H1 s1 ∧ RelV v u ∧ Mn ι H ι1 H1 ∧ SR X.K X.mg ι1 S1 H1 ∧ FR X.K ι1 fr σ H1 ∧ Rp X.K ι1 H1 d v ∧ Po X.K X.mg ι1 H1 (g d S1) k (kX X.K X.mg W σ)) X.xe s := by
  refine thn (PE.run ha pins s σ H (fun v H1 => ∃ ι1 S1 d, Mn ι H ι1 H1 ∧ SR X.K X.mg ι1 S1 H1 ∧ Rp X.K ι1 H1 d v ∧ Po X.K X.mg ι1 H1 (g d S1) k (kX X.K X.mg W σ)) I
    ⟨ι, fr, S, hS, hF, h.bnd.imp (fun d S1 ι1 H1 m1 s1 h1 v r1 => ⟨ι1, S1, d, m1, s1, r1, h1⟩) fun _ _ _ _ _ _ z => z⟩) fun u s1 q => ?_
  obtain ⟨v, H1, I1, ru, ι1, S1, d, m1, s1', r1, h1⟩ := q
  exact ⟨v, H1, ι1, S1, d, I1, ru, m1, s1', m1.fr hF, r1, h1⟩
theorem OpD.wp {f : Value → Value → Sem Value} {g : D → D → M D} (ho : OpD X W f g) {x y : D} {v u : V} {vv uu : Value} {S : Store} {Q : VK} (I : Inv X pins σ H s) (rv : RelV v vv) (ru : RelV u uu) (hS : SR X.K X.mg ι S H)
    (r1 : Rp X.K ι H x v) (r2 : Rp X.K ι H y u) (h : Po X.K X.mg ι H (g x y S) (kE X.K Q) (kX X.K X.mg W σ)) : wpAny (model X.prog X.w) X.A (f vv uu) (EP X pins σ Q) X.xe s := by
  obtain ⟨r, h1, h2⟩ := ho
  exact thn (h1 pins s σ H v u vv uu _ I rv ru (h2 ι S H σ x y v u Q hS r1 r2 h)) fun _ _ q => EP.fz q
/-- a bool -/
def tsb (d : D) : M Bool := fun S => match d with
  | .bl b => .ok b S
  | _ => .bad
def tbF (f : Frame → M D) : Frame → M Bool := fun fr => bnd (f fr) tsb
theorem bnd_assoc {α β γ : Type} (m : M α) (f : α → M β) (g : β → M γ) : bnd (bnd m f) g = bnd m fun a => bnd (f a) g := by
  funext S
  unfold bnd
  cases m S <;> rfl
theorem DT_cmp {op : CmpOp} {g : D → D → M D} (ho : OpD X W (compareOp op) g) (ha : DE X W fa a) (hb : DE X W fb b) (hm : behindInMarks op b = false := by first | exact nomark _ | rfl) : DT X W (tbF (binF g fa fb)) (.Compare a [op] [b] pos) := by
  refine ⟨fun pins s σ H Q I ht => ?_⟩
  obtain ⟨ι, fr, S, hS, hF, h⟩ := ht
  unfold tbF binF at h
  rw [bnd_assoc] at h
  refine wpAny_isTrue_Compare1 (thn (ha.step I hS hF h) fun v1 s1 ⟨x, H1, ι1, S1, d1, I1, rx, m1, hS1, hF1, r1, h1⟩ => ?_) hm
  rw [bnd_assoc] at h1
  refine thn (hb.step I1 hS1 hF1 h1) fun v2 s2 ⟨y, H2, ι2, S2, d2, I2, ry, m2, hS2, hF2, r2, h2⟩ => ?_
  refine thn (ho.wp (Q := fun z H3 => ∃ k, z = .bl k ∧ Q k H3) I2 rx ry hS2 (m2.rp r1) r2 (h2.bnd.imp (fun d S3 ι3 H3 m3 s3 h3 z rz => ?_) fun _ _ _ _ _ _ z => z)) fun c s3 ⟨z, H3, I3, r3, k, e, q3⟩ => ?_
  · unfold tsb at h3
    split at h3
    · cases rz
      exact ⟨_, rfl, h3.ok s3⟩
    · exact h3.bad
  · subst e
    cases r3
    exact wpAny_truthy_bool ⟨H3, I3, q3⟩
theorem DT_not {f : Frame → M Bool} (h : DT X W f e) : DT X W (notF f) (.UnaryOp .Not e pos) :=
  DT.of (pt_not h) fun σ H Q ι fr S s fr' q => ⟨ι, fr, S, s, fr', q.bnd.imp (fun b S1 ι1 H1 m1 s1 h1 => h1.ok s1) fun _ _ _ _ _ _ z => z⟩
/-- a chain of and, or -/
def DW (X : Cx) (W : WE) (f : Frame → M Bool) (e : Expr) : Prop := PW X e (trT X.K X.mg W f)
theorem DW.of {t : TT} {f : Frame → M Bool} (h : PW X e t) (hm : ∀ σ H Q ι fr S, SR X.K X.mg ι S H → FR X.K ι fr σ H → Po X.K X.mg ι H (f fr S) (kT Q) (kX X.K X.mg W σ) → t σ H Q) : DW X W f e := by
  refine ⟨fun wh pins s σ H Q I ht => ?_⟩
  obtain ⟨ι, fr, S, h1, h2, h3⟩ := ht
  exact h.run wh pins s σ H _ I (hm σ H Q ι fr S h1 h2 h3)
theorem DW.pt {f : Frame → M Bool} (h : DW X W f e) : DT X W f e := PW.pt h
variable {rest : List Expr} {f g : Frame → M Bool}
theorem DW_or1 (h : DT X W f a) : DW X W f (.BoolOp .Or [a] pos) := pw_or1 h
theorem DW_or (h : DT X W f a) (h' : DW X W g (.BoolOp .Or (b :: rest) pos)) : DW X W (orF f g) (.BoolOp .Or (a :: b :: rest) pos) := by
  refine DW.of (pw_or h h') fun σ H Q ι fr S s fr' q => ⟨ι, fr, S, s, fr', q.bnd.imp (fun c S1 ι1 H1 m1 s1 h1 => ?_) fun _ _ _ _ _ _ z => z⟩
  cases c with
  | true => exact (if_pos rfl).mpr (h1.ok s1)
  | false => exact (if_neg Bool.false_ne_true).mpr ⟨ι1, fr, S1, s1, m1.fr fr', h1⟩
theorem DE_ite {c : Expr} (h : DT X W f c) (ha : DE X W fa a) (hb : DE X W fb b) : DE X W (iteF f fa fb) (.IfExp c a b pos) := by
  refine DE.of (pe_ifExp h ha hb) fun σ H Q ι fr S s fr' q => ⟨ι, fr, S, s, fr', q.bnd.imp (fun c S1 ι1 H1 m1 s1 h1 => ?_) fun _ _ _ _ _ _ z => z⟩
  cases c with
  | true => exact (if_pos rfl).mpr ⟨ι1, fr, S1, s1, m1.fr fr', h1.imp (fun d _ _ _ _ _ z v r => .inl (z v r)) fun _ _ _ _ _ _ z => z⟩
  | false => exact (if_neg Bool.false_ne_true).mpr ⟨ι1, fr, S1, s1, m1.fr fr', h1.imp (fun d _ _ _ _ _ z v r => .inl (z v r)) fun _ _ _ _ _ _ z => z⟩
/-- .. as values -/
def andV (f g : Frame → M D) : Frame → M D := fun fr => bnd (f fr) fun x => bnd (tsb x) fun b => match b with
  | true => g fr
  | false => ret (.bl false)
def orV (f g : Frame → M D) : Frame → M D := fun fr => bnd (f fr) fun x => bnd (tsb x) fun b => match b with
  | true => ret (.bl true)
  | false => g fr
def notV (f : Frame → M D) : Frame → M D := fun fr => bnd (f fr) fun x => bnd (tsb x) fun b => ret (.bl !b)
theorem tsb_at {α : Type} {S : Store} {d : D} {v : V} {g : Bool → M α} {k : α → Store → List Addr → Hp → Prop} {e : Exc → Store → List Addr → Hp → Prop} (r : Rp X.K ι H d v) (h : Po X.K X.mg ι H (bnd (tsb d) g S) k e) :
    ∃ b, v = .bl b ∧ d = .bl b ∧ Po X.K X.mg ι H (g b S) k e := by
  cases d with
  | bl b => cases r; exact ⟨b, rfl, rfl, h⟩
  | _ => exact h.bad
theorem DE_one {op} (h : DE X W fa a) : DE X W fa (.BoolOp op [a] pos) := pe_one h
theorem DE_and (ha : DE X W fa a) (hb : DE X W fb (.BoolOp .And (b :: rest) pos)) : DE X W (andV fa fb) (.BoolOp .And (a :: b :: rest) pos) := by
  refine DE.of (pe_and ha hb) fun σ H Q ι fr S s fr' q => ⟨ι, fr, S, s, fr', q.bnd.imp (fun c S1 ι1 H1 m1 s1 h1 v r1 => ?_) fun _ _ _ _ _ _ z => z⟩
  obtain ⟨b, rfl, rfl, h2⟩ := tsb_at r1 h1
  refine ⟨b, rfl, ?_⟩
  cases b with
  | true => exact (if_pos rfl).mpr ⟨ι1, fr, S1, s1, m1.fr fr', h2.imp (fun d _ _ _ _ _ z v r => .inl (z v r)) fun _ _ _ _ _ _ z => z⟩
  | false => exact (if_neg Bool.false_ne_true).mpr (.inl (h2.ok s1 _ rfl))
theorem DE_or (ha : DE X W fa a) (hb : DE X W fb (.BoolOp .Or (b :: rest) pos)) : DE X W (orV fa fb) (.BoolOp .Or (a :: b :: rest) pos) := by
  refine DE.of (pe_or ha hb) fun σ H Q ι fr S s fr' q => ⟨ι, fr, S, s, fr', q.bnd.imp (fun c S1 ι1 H1 m1 s1 h1 v r1 => ?_) fun _ _ _ _ _ _ z => z⟩
  obtain ⟨b, rfl, rfl, h2⟩ := tsb_at r1 h1
  refine ⟨b, rfl, ?_⟩
  cases b with
  | true => exact (if_pos rfl).mpr (.inl (h2.ok s1 _ rfl))
  | false => exact (if_neg Bool.false_ne_true).mpr ⟨ι1, fr, S1, s1, m1.fr fr', h2.imp (fun d _ _ _ _ _ z v r => .inl (z v r)) fun _ _ _ _ _ _ z => z⟩
end
end DL
namespace DL
open PySem PySem.Spec PyProof.Rows L2
open SeqAt (shaped)
section
variable {K : PySem.W.Frag} {mg : Str → Option Value} {ι : List Addr} {H : Hp} {α β : Type}
theorem Po.bndE {m : M α} {f : α → M β} {S : Store} {k : β → Store → List Addr → Hp → Prop} {e : Exc → Store → List Addr → Hp → Prop} (h : Po K mg ι H (DL.bnd m f S) k e) :
    Po K mg ι H (m S) (fun a S1 ι1 H1 => m S = .ok a S1 ∧ Po K mg ι1 H1 (f a S1) k e) e := by
  have q := h.bnd
  cases hm : m S with
  | ok a S1 => rw [hm] at q; exact fun ι1 H1 m1 s1 => ⟨rfl, q ι1 H1 m1 s1⟩
  | err x S1 => rw [hm] at q; exact q
  | bad => rw [hm] at q; exact q
end
/-- the arguments, from the left -/
def seqA : List (Frame → M D) → Frame → M (List D)
  | [], _ => ret []
  | f :: fs, fr => bnd (f fr) fun x => bnd (seqA fs fr) fun xs => ret (x :: xs)
theorem seqA_len : ∀ {fs : List (Frame → M D)} {fr : Frame} {S S' : Store} {l : List D}, seqA fs fr S = .ok l S' → l.length = fs.length
  | [], _, _, _, _, h => by cases h; rfl
  | f :: fs, fr, S, S', l, h => by
    unfold seqA bnd at h
    cases e : f fr S with
    | ok x S1 =>
      rw [e] at h
      cases e2 : seqA fs fr S1 with
      | ok xs S2 =>
        simp only [bnd, e2, ret] at h
        cases h
        simp [seqA_len e2]
      | err x S2 => simp only [bnd, e2] at h; cases h
      | bad => simp only [bnd, e2] at h; cases h
    | err x S1 => rw [e] at h; cases h
    | bad => rw [e] at h; cases h
def tupF (fs : List (Frame → M D)) : Frame → M D := fun fr => bnd (seqA fs fr) fun l => ret (.tup l)
def lstF (fs : List (Frame → M D)) : Frame → M D := fun fr => bnd (seqA fs fr) fun l => ret (.lst l)
def newO (o : O) : M D := fun S => .ok (.ob S.length) (S ++ [some o])
def lstO (fs : List (Frame → M D)) : Frame → M D := fun fr => bnd (seqA fs fr) fun l => newO (.lst l)
def ixD (x y : D) : M D := fun S => match x, y with
  | .str z, .int i => if z.length ≤ sizeLine then (match atI z.cps.toList i with
    | some c => .ok (.str ⟨#[c]⟩) S
    | none => .bad) else .bad
  | x, .int i => match seqL S x with
    | some l => (match atI l i with
      | some d => .ok d S
      | none => .bad)
    | none => .bad
  | _, _ => .bad
def cutD (l : List D) (lo hi : Option Int) : List D := (l.drop (HT.sIx l.length 0 lo)).take (HT.sIx l.length l.length hi - HT.sIx l.length 0 lo)
def sliD (x : D) (lo hi : Option Int) : M D := fun S => match x with
  | .tup l => .ok (.tup (cutD l lo hi)) S
  | x => match lstL S x with
    | some l => .ok (.lst (cutD l lo hi)) S
    | none => .bad
def sliO (x : D) (lo hi : Option Int) : M D := fun S => match lstL S x with
    | some l => newO (.lst (cutD l lo hi)) S
    | none => .bad
/-- a part of a slice -/
def prtF : Option (Frame → M D) → Frame → M (Option Int)
  | none, _ => ret none
  | some f, fr => bnd (f fr) fun x => fun S => match x with
    | .int i => .ok (some i) S
    | _ => .bad
def sliF (g : D → Option Int → Option Int → M D) (f : Frame → M D) (lo hi : Option (Frame → M D)) : Frame → M D := fun fr => bnd (f fr) fun x => bnd (prtF lo fr) fun l => bnd (prtF hi fr) fun h => g x l h
def calF (g : List D → M D) (fs : List (Frame → M D)) : Frame → M D := fun fr => bnd (seqA fs fr) g
section
variable {X : Cx} {W : WE} {a b c e : Expr} {pos : Pos} {fa fb fc : Frame → M D} {ι : List Addr} {H : Hp} {σ : L2.St} {s : Shared} {pins : List (Addr × Obj)} {es : List Expr} {fs : List (Frame → M D)}
theorem DA_nil : DA X W (seqA []) [] := DA.of pa_nil fun σ H Q ι fr S s f h => h.ok s _ rfl
theorem DA_cons (ha : DE X W fa a) (hs : DA X W (seqA fs) es) (h1 : starEach (a :: es) X.env = (false, eval a X.env) :: starEach es X.env := by rfl) : DA X W (seqA (fa :: fs)) (a :: es) := by
  refine DA.of (pa_cons ha hs h1) fun σ H Q ι fr S s f h => ⟨ι, fr, S, s, f, h.bnd.imp (fun x S1 ι1 H1 m1 s1 h1 v r1 => ?_) fun _ _ _ _ _ _ z => z⟩
  exact ⟨ι1, fr, S1, s1, m1.fr f, h1.bnd.imp (fun xs S2 ι2 H2 m2 s2 h2 vs r2 => h2.ok s2 _ ⟨v, vs, rfl, m2.rp r1, r2⟩) fun _ _ _ _ _ _ z => z⟩
theorem small_line {n : Nat} (h : n ≤ 1000) : n ≤ sizeLine := by rw [sizeLine_eq]; omega
theorem DE_tup {k : Nat} (h : DA X W (seqA fs) es) (hn : fs.length ≤ 1000 := by exact Nat.le_of_ble_eq_true rfl) : DE X W (tupF fs) (.Tuple es k pos) := by
  refine DE.of (pe_tup h) fun σ H Q ι fr S s f q => ⟨ι, fr, S, s, f, q.bndE.imp (fun l S1 ι1 H1 m1 s1 h1 vs r1 => ?_) fun _ _ _ _ _ _ z => z⟩
  obtain ⟨he, h1⟩ := h1
  have hl := seqA_len he
  exact ⟨by rw [← r1.length, hl]; exact small_line hn, nw_tup s1 r1 h1⟩
theorem DE_lst (h : DA X W (seqA fs) es) (hn : fs.length ≤ 1000 := by exact Nat.le_of_ble_eq_true rfl) : DE X W (lstF fs) (.List es pos) := by
  refine DE.of (pe_lst h) fun σ H Q ι fr S s f q => ⟨ι, fr, S, s, f, q.bndE.imp (fun l S1 ι1 H1 m1 s1 h1 vs r1 => ?_) fun _ _ _ _ _ _ z => z⟩
  obtain ⟨he, h1⟩ := h1
  have hl := seqA_len he
  exact ⟨by rw [← r1.length, hl]; exact small_line hn, fz_list s1 r1 h1⟩
/-- a new list of the store -/
theorem ob_list {S : Store} {Q : VK} {l : List D} {vs : List V} {e : Exc → Store → List Addr → Hp → Prop} (s : SR X.K X.mg ι S H) (r : Rps X.K ι H l vs) (h : Po X.K X.mg ι H (newO (.lst l) S) (kE X.K Q) e)
    (p : Addr) (hp : H p = none) : Fz Q (.ref p) (upd H p (.lst vs)) := by
  have m : Mn ι H (ι ++ [p]) (upd H p (.lst vs)) := Mn.new hp
  refine .inl (h _ _ m (s.new hp (by intro _ z; cases z) ⟨vs, upd_same, m.rps r⟩) _ ⟨p, rfl, ?_⟩)
  rw [s.len]
  simp
theorem DE_lstO (h : DA X W (seqA fs) es) (hn : fs.length ≤ 1000 := by exact Nat.le_of_ble_eq_true rfl) : DE X W (lstO fs) (.List es pos) := by
  refine DE.of (pe_lst h) fun σ H Q ι fr S s f q => ⟨ι, fr, S, s, f, q.bndE.imp (fun l S1 ι1 H1 m1 s1 h1 vs r1 => ?_) fun _ _ _ _ _ _ z => z⟩
  obtain ⟨he, h1⟩ := h1
  have hl := seqA_len he
  exact ⟨by rw [← r1.length, hl]; exact small_line hn, ob_list s1 r1 h1⟩
theorem atI_rps {l : List D} {vs : List V} {i : Int} {d : D} (r : Rps X.K ι H l vs) (h : atI l i = some d) : ∃ v, atI vs i = some v ∧ Rp X.K ι H d v := by
  unfold atI at h ⊢
  rw [← r.length]
  cases q : ixN l.length i with
  | none => rw [q] at h; cases h
  | some j =>
    rw [q] at h
    exact r.get (i := j) h
theorem DE_ix (ha : DE X W fa a) (hb : DE X W fb b) (hs : PlainIx b := by exact fun _ _ => rfl) : DE X W (binF ixD fa fb) (.Subscript a b pos) := by
  refine DE.of (pe_ix ix_seq ha hb hs) fun σ H Q ι fr S s f h => two_in (fun ι S H σ x y v u Q s r1 r2 h => ?_) s f h
  unfold ixD at h
  split at h
  · cases r1; cases r2
    split at h
    · rename_i hz
      split at h
      · rename_i c hc
        exact .inr (.inr ⟨_, _, c, rfl, rfl, hz, hc, .inl (h.ok s _ rfl)⟩)
      · exact h.bad
    · exact h.bad
  · cases r2
    split at h
    · rename_i l hl
      obtain ⟨p, vs, rfl, hq, rs⟩ := seq_at s r1 hl
      split at h
      · rename_i d hd
        obtain ⟨v, hv, rv⟩ := atI_rps rs hd
        rcases hq with hq | hq
        · exact .inl ⟨p, vs, _, v, rfl, rfl, hq, hv, .inl (h.ok s _ rv)⟩
        · exact .inr (.inl ⟨p, vs, _, v, rfl, rfl, hq, hv, .inl (h.ok s _ rv)⟩)
      · exact h.bad
    · exact h.bad
  · exact h.bad
/-- a slice's part -/
def DO (X : Cx) (W : WE) (f : Option (Frame → M D)) (o : Option Expr) : Prop := PO X o (fun σ H Q => ∃ ι fr S, SR X.K X.mg ι S H ∧ FR X.K ι fr σ H ∧ Po X.K X.mg ι H (prtF f fr S) (fun i _ _ H' => Q i H') (kX X.K X.mg W σ))
theorem DO_none : DO X W none none := ⟨fun pins s σ H Q I h => by
  obtain ⟨ι, fr, S, hS, hF, h⟩ := h
  exact po_none.run pins s σ H Q I (h.ok hS)⟩
theorem DO_some (ha : DE X W fa a) : DO X W (some fa) (some a) := ⟨fun pins s σ H Q I h => by
  obtain ⟨ι, fr, S, hS, hF, h⟩ := h
  refine (po_some ha).run pins s σ H Q I ⟨ι, fr, S, hS, hF, h.bnd.imp (fun x S1 ι1 H1 m1 s1 h1 v r1 => ?_) fun _ _ _ _ _ _ z => z⟩
  split at h1
  · cases r1; exact ⟨_, rfl, h1.ok s1⟩
  · exact h1.bad⟩
theorem cut_rps {l : List D} {vs : List V} {lo hi : Option Int} (r : Rps X.K ι H l vs) : Rps X.K ι H (cutD l lo hi) (cutV vs lo hi) := by
  unfold cutD cutV
  rw [r.length]
  exact Rps.take _ (Rps.drop _ r)
theorem cut_whole {l : List D} {lo hi : Option Int} (h : HT.sIx l.length 0 lo = 0 ∧ HT.sIx l.length l.length hi = l.length) : cutD l lo hi = l := by
  unfold cutD
  rw [h.1, h.2]
  simp
variable {o1 o2 : Option Expr} {f1 f2 : Option (Frame → M D)} {p2 : Pos}
theorem DE_sli (ha : DE X W fa a) (h1 : DO X W f1 o1) (h2 : DO X W f2 o2) : DE X W (sliF sliD fa f1 f2) (.Subscript a (.Slice o1 o2 none p2) pos) := by
  refine DE.of (pe_slice (sl_list.or sl_tupA) ha h1 h2) fun σ H Q ι fr S s f h => ⟨ι, fr, S, s, f, h.bnd.imp (fun x S1 ι1 H1 m1 s1 h1 v r1 => ?_) fun _ _ _ _ _ _ z => z⟩
  refine ⟨ι1, fr, S1, s1, m1.fr f, h1.bnd.imp (fun lo S2 ι2 H2 m2 s2 h2 => ?_) fun _ _ _ _ _ _ z => z⟩
  refine ⟨ι2, fr, S2, s2, (m1.trans m2).fr f, h2.bnd.imp (fun hi S3 ι3 H3 m3 s3 h3 => ?_) fun _ _ _ _ _ _ z => z⟩
  have r3 := (m2.trans m3).rp r1
  unfold sliD at h3
  split at h3
  · rename_i l
    obtain ⟨p, vs, rfl, hq, rs⟩ := r3
    refine .inr ⟨p, vs, rfl, .of hq, fun w => ?_, fun _ q hn => nw_tup s3 (cut_rps rs) h3 q hn⟩
    rw [← rs.length] at w
    rw [cut_whole w] at h3
    exact .inl (h3.ok s3 _ ⟨p, vs, rfl, hq, rs⟩)
  · split at h3
    · rename_i l hl
      obtain ⟨p, vs, rfl, hq, rs⟩ := lst_at s3 r3 hl
      exact .inl ⟨p, vs, rfl, hq, fz_list s3 (cut_rps rs) h3⟩
    · exact h3.bad
/-! ### built-ins by name -/
def CalD (X : Cx) (W : WE) (f : Value) (g : List D → M D) : Prop :=
  ∃ r, CallR X f r ∧ ∀ ι S H σ xs vs Q, SR X.K X.mg ι S H → Rps X.K ι H xs vs → Po X.K X.mg ι H (g xs S) (kE X.K Q) (kX X.K X.mg W σ) → r vs H (Fz Q)
theorem DE_blt {id : String} {x : Str} {g : List D → M D} {p : Pos} (hc : CalD X W (.builtin id) g) (hg : Gl X x) (hm : X.mg x = none) (hv : bootBuiltins x = some (.builtin id)) (ha : DA X W (seqA fs) (e :: es)) (hn : x ≠ "__name__" := by decide) (hdb : (x == ("__debug__" : Str)) = false := by decide)
    (he : starEach (e :: es) X.env = (false, eval e X.env) :: starEach es X.env := by rfl) (hpl : (backTo pos (starEach es X.env)).any (·.1) = false := by rfl) : DE X W (calF g fs) (.Call (.Name x p) (e :: es) [] pos) := by
  obtain ⟨r, h1, h2⟩ := hc
  refine DE.of (pe_callB h1 hg hm hv ha hn hdb he hpl) fun σ H Q ι fr S s f h => ?_
  exact ⟨ι, fr, S, s, f, h.bnd.imp (fun xs S1 ι1 H1 m1 s1 q1 vs r1 => h2 ι1 S1 H1 σ xs vs Q s1 r1 q1) fun _ _ _ _ _ _ z => z⟩
theorem DE_typ {id : String} {x : Str} {g : List D → M D} {p : Pos} (hc : CalD X W (.type id) g) (hg : Gl X x) (hm : X.mg x = none) (hv : bootBuiltins x = some (.type id)) (ha : DA X W (seqA fs) (e :: es)) (hn : x ≠ "__name__" := by decide) (hdb : (x == ("__debug__" : Str)) = false := by decide)
    (he : starEach (e :: es) X.env = (false, eval e X.env) :: starEach es X.env := by rfl) (hpl : (backTo pos (starEach es X.env)).any (·.1) = false := by rfl) : DE X W (calF g fs) (.Call (.Name x p) (e :: es) [] pos) := by
  obtain ⟨r, h1, h2⟩ := hc
  refine DE.of (pe_callTy h1 hg hm hv ha hn hdb he hpl) fun σ H Q ι fr S s f h => ?_
  exact ⟨ι, fr, S, s, f, h.bnd.imp (fun xs S1 ι1 H1 m1 s1 q1 vs r1 => h2 ι1 S1 H1 σ xs vs Q s1 r1 q1) fun _ _ _ _ _ _ z => z⟩
end
end DL
namespace DL
open PySem PySem.Spec PyProof.Rows L2
open SeqAt (shaped)

inductive RS where
  | ok (fl : Fl) (fr : Frame) (S : Store) | err (x : Exc) (fr : Frame) (S : Store) | bad
abbrev SM := Frame → Store → RS
def exS {α : Type} (r : R α) (fr : Frame) (k : α → Store → RS) : RS := match r with
  | .ok a S => k a S
  | .err x S => .err x fr S
  | .bad => .bad
@[simp] theorem exS_ok {α : Type} (a : α) (S : Store) (fr : Frame) (k : α → Store → RS) : exS (.ok a S) fr k = k a S := rfl
def asgF (i : Nat) (f : Frame → M D) : SM := fun fr S => exS (f fr S) fr fun d S' => .ok .nx (fr.set i (some d)) S'
def retF (f : Frame → M D) : SM := fun fr S => exS (f fr S) fr fun d S' => .ok (.rt d) fr S'
def retN : SM := fun fr S => .ok (.rt .non) fr S
def exprF (f : Frame → M D) : SM := fun fr S => exS (f fr S) fr fun _ S' => .ok .nx fr S'
def nxF : SM := fun fr S => .ok .nx fr S
def bkF : SM := fun fr S => .ok .bk fr S
def ctF : SM := fun fr S => .ok .ct fr S
def badS : SM := fun _ _ => .bad
def seqS (f g : SM) : SM := fun fr S => match f fr S with
  | .ok .nx fr' S' => g fr' S'
  | r => r
def ifS (c : Frame → M Bool) (f g : SM) : SM := fun fr S => exS (c fr S) fr fun b S' => match b with
  | true => f fr S'
  | false => g fr S'
section
variable (K : PySem.W.Frag) (mg : Str → Option Value) (W : WE)
def kF (D : Ends) : Fl → List Addr → L2.St → Hp → Prop
  | .nx, _, σ, H => D.nx σ H
  | .bk, _, σ, H => D.bk σ H
  | .ct, _, σ, H => D.ct σ H
  | .rt d, ι, _, H => ∀ v, Rp K ι H d v → D.rt v H
def PoS (ι : List Addr) (H : Hp) (r : RS) (D : Ends) : Prop := match r with
  | .ok fl fr S' => ∀ ι' σ' H', Mn ι H ι' H' → SR K mg ι' S' H' → FR K ι' fr σ' H' → kF K D fl ι' σ' H'
  | .err x fr S' => ∀ ι' σ' H', Mn ι H ι' H' → SR K mg ι' S' H' → FR K ι' fr σ' H' → ∀ c d, XR K mg ι' H' x c d → W c d σ' H'
  | .bad => False
def trS (f : SM) : TS := fun D σ H => ∃ ι fr S, SR K mg ι S H ∧ FR K ι fr σ H ∧ PoS K mg W ι H (f fr S) D
end
def DS (X : Cx) (W : WE) (f : SM) (st : Stmt) : Prop := PS X st (trS X.K X.mg W f)
def DSs (X : Cx) (W : WE) (f : SM) (st : List Stmt) : Prop := PSs X st (trS X.K X.mg W f)
section
variable {K : PySem.W.Frag} {mg : Str → Option Value} {W : WE} {ι ι' : List Addr} {H H' : Hp}
theorem PoS.from {r : RS} {D : Ends} (m : Mn ι H ι' H') (h : PoS K mg W ι H r D) : PoS K mg W ι' H' r D := by
  cases r with
  | ok a fr S => exact fun ι2 σ2 H2 m2 => h ι2 σ2 H2 (m.trans m2)
  | err x fr S => exact fun ι2 σ2 H2 m2 => h ι2 σ2 H2 (m.trans m2)
  | bad => exact h
theorem PoS.ex {α : Type} {r : R α} {fr : Frame} {k : α → Store → RS} {D : Ends} {σ : L2.St} (f : FR K ι fr σ H) (h : PoS K mg W ι H (exS r fr k) D) :
    Po K mg ι H r (fun a S1 ι1 H1 => PoS K mg W ι1 H1 (k a S1) D) (kX K mg W σ) := by
  cases r with
  | ok a S => exact fun ι1 H1 m1 s1 => PoS.from m1 h
  | err x S => exact fun ι1 H1 m1 s1 => h ι1 σ H1 m1 s1 (m1.fr f)
  | bad => exact h
theorem PoS.exE {α : Type} {r : R α} {fr : Frame} {k : α → Store → RS} {D : Ends} {σ : L2.St} (f : FR K ι fr σ H) (h : PoS K mg W ι H (exS r fr k) D) :
    Po K mg ι H r (fun a S1 ι1 H1 => r = .ok a S1 ∧ PoS K mg W ι1 H1 (k a S1) D) (kX K mg W σ) := by
  cases r with
  | ok a S => exact fun ι1 H1 m1 s1 => ⟨rfl, PoS.from m1 h⟩
  | err x S => exact fun ι1 H1 m1 s1 => h ι1 σ H1 m1 s1 (m1.fr f)
  | bad => exact h
theorem PoS.ok {fl : Fl} {fr : Frame} {S : Store} {D : Ends} {σ : L2.St} (h : PoS K mg W ι H (.ok fl fr S) D) (s : SR K mg ι S H) (f : FR K ι fr σ H) : kF K D fl ι σ H := h ι σ H Mn.refl s f
theorem FR.set {fr : Frame} {σ : L2.St} {i : Nat} {d : D} {v : V} (f : FR K ι fr σ H) (r : Rp K ι H d v) : FR K ι (fr.set i (some d)) (σ.set i (some v)) H := by
  refine ⟨by simp [f.1], fun j x e => ?_⟩
  by_cases h : i = j
  · subst h
    have hl : i < fr.length := by
      have := (List.getElem?_eq_some_iff.mp e).1
      simpa using this
    rw [List.getElem?_set_self hl] at e
    cases e
    exact ⟨v, List.getElem?_set_self (by rw [← f.1]; exact hl), r⟩
  · rw [List.getElem?_set_ne h] at e ⊢
    exact f.2 j x e
end
section
variable {X : Cx} {W : WE} {st : Stmt} {sts rest : List Stmt} {e c : Expr} {pos : Pos} {f g : SM} {fe : Frame → M D} {ft : Frame → M Bool}
theorem DS.of {t : TS} {f : SM} (h : PS X st t) (hm : ∀ D σ H ι fr S, SR X.K X.mg ι S H → FR X.K ι fr σ H → PoS X.K X.mg W ι H (f fr S) D → t D σ H) : DS X W f st :=
  ⟨fun pins s σ H D I ⟨ι, fr, S, h1, h2, h3⟩ => h.run pins s σ H D I (hm D σ H ι fr S h1 h2 h3)⟩
theorem DSs.of {t : TS} {f : SM} (h : PSs X sts t) (hm : ∀ D σ H ι fr S, SR X.K X.mg ι S H → FR X.K ι fr σ H → PoS X.K X.mg W ι H (f fr S) D → t D σ H) : DSs X W f sts :=
  ⟨fun pins s σ H D I ⟨ι, fr, S, h1, h2, h3⟩ => h.run pins s σ H D I (hm D σ H ι fr S h1 h2 h3)⟩
theorem DSs_nil : DSs X W nxF [] := DSs.of pss_nil fun D σ H ι fr S s f h => h.ok s f
theorem DSs_one (h : DS X W f st) : DSs X W f [st] := pss_one h
theorem DSs_cons (h1 : DS X W f st) (h2 : DSs X W g rest) : DSs X W (seqS f g) (st :: rest) := by
  refine DSs.of (pss_cons h1 h2) fun D σ H ι fr S s fr' h => ⟨ι, fr, S, s, fr', ?_⟩
  unfold seqS at h
  cases q : f fr S with
  | ok fl fr1 S1 =>
    cases fl with
    | nx => rw [q] at h; exact fun ι1 σ1 H1 m1 s1 f1 => ⟨ι1, fr1, S1, s1, f1, PoS.from m1 h⟩
    | rt d => rw [q] at h; exact fun ι1 σ1 H1 m1 s1 f1 => h ι1 σ1 H1 m1 s1 f1
    | bk => rw [q] at h; exact fun ι1 σ1 H1 m1 s1 f1 => h ι1 σ1 H1 m1 s1 f1
    | ct => rw [q] at h; exact fun ι1 σ1 H1 m1 s1 f1 => h ι1 σ1 H1 m1 s1 f1
  | err x fr1 S1 => rw [q] at h; exact h
  | bad => rw [q] at h; exact h
theorem DS_expr (he : DE X W fe e) (hs : swapsWith e none pos.line X.env = pure false := by rfl) : DS X W (exprF fe) (.Expr e pos) :=
  DS.of (ps_expr he hs) fun D σ H ι fr S s f h => ⟨ι, fr, S, s, f, (h.ex f).imp (fun d S1 ι1 H1 m1 s1 h1 v r1 => h1.ok s1 (m1.fr f)) fun _ _ _ _ _ _ z => z⟩
theorem DS_ret (he : DE X W fe e) : DS X W (retF fe) (.Return (some e) pos) :=
  DS.of (ps_ret he) fun D σ H ι fr S s f h => ⟨ι, fr, S, s, f, (h.ex f).imp (fun d S1 ι1 H1 m1 s1 h1 v r1 => h1.ok s1 (m1.fr f) v r1) fun _ _ _ _ _ _ z => z⟩
theorem DS_if {a b : List Stmt} (hc : DT X W ft c) (ha : DSs X W f a) (hb : DSs X W g b) : DS X W (ifS ft f g) (.If c a b pos) := by
  refine DS.of (ps_if hc ha hb) fun D σ H ι fr S s f h => ⟨ι, fr, S, s, f, (h.ex f).imp (fun d S1 ι1 H1 m1 s1 h1 => ?_) fun _ _ _ _ _ _ z => z⟩
  cases d with
  | true => exact (if_pos rfl).mpr ⟨ι1, fr, S1, s1, m1.fr f, h1⟩
  | false => exact (if_neg Bool.false_ne_true).mpr ⟨ι1, fr, S1, s1, m1.fr f, h1⟩
theorem DS_set {i : Nat} {x : Str} {pos' : Pos} (hN : X.N.Nodup) (hi : X.N[i]? = some x) (hx : Loc X.env.scope x) (he : DE X W fe e) (hs : swapsWith e (some (.Name x pos')) pos.line X.env = pure false := by rfl)
    (hf : X.fn x = true ∨ X.env.scope.names.lookup x = some .local := by first | exact .inl rfl | exact .inr rfl | assumption) : DS X W (asgF i fe) (.Assign [.Name x pos'] e pos) :=
  DS.of (ps_set hN hi hx he hs hf) fun D σ H ι fr S s f h => ⟨ι, fr, S, s, f, (h.ex f).imp (fun d S1 ι1 H1 m1 s1 h1 v r1 => h1.ok s1 (FR.set (m1.fr f) r1)) fun _ _ _ _ _ _ z => z⟩

/-! ### targets -/
def tgName (i : Nat) : D → Frame → M Frame := fun d fr => ret (fr.set i (some d))
def tgAll : List (D → Frame → M Frame) → List D → Frame → M Frame
  | [], [], fr => ret fr
  | g :: gs, d :: ds, fr => bnd (g d fr) fun fr1 => tgAll gs ds fr1
  | _, _, _ => bad
def tgTup (gs : List (D → Frame → M Frame)) : D → Frame → M Frame := fun d fr => match d with
  | .tup l => if l.length = gs.length then tgAll gs l fr else bad
  | _ => bad
/-- only the slots ts are stored -/
def Tch (ts : List Nat) (σ σ' : L2.St) : Prop := σ'.length = σ.length ∧ ∀ j, j ∉ ts → σ'[j]? = σ[j]?
abbrev kG (K : PySem.W.Frag) (ts : List Nat) (σ : L2.St) (Q : L2.St → Hp → Prop) : Frame → Store → List Addr → Hp → Prop := fun fr' _ ι' H' => ∀ σ', FR K ι' fr' σ' H' → Tch ts σ σ' → Q σ' H'
def trG (K : PySem.W.Frag) (mg : Str → Option Value) (ts : List Nat) (g : D → Frame → M Frame) : TG := fun v σ H Q => ∃ ι fr S d, SR K mg ι S H ∧ FR K ι fr σ H ∧ Rp K ι H d v ∧ Po K mg ι H (g d fr S) (kG K ts σ Q) (fun _ _ _ _ => False)
def DG (X : Cx) (ts : List Nat) (g : D → Frame → M Frame) (tg : Expr) : Prop := PG X tg (trG X.K X.mg ts g)
def DGs (X : Cx) (ts : List Nat) (gs : List (D → Frame → M Frame)) (tg : List Expr) : Prop := PGs X tg (fun v σ H Q => ∃ ι fr S d, SR X.K X.mg ι S H ∧ FR X.K ι fr σ H ∧ Rps X.K ι H d v ∧ Po X.K X.mg ι H (tgAll gs d fr S) (kG X.K ts σ Q) (fun _ _ _ _ => False))
theorem Tch.refl {σ : L2.St} : Tch [] σ σ := ⟨rfl, fun _ _ => rfl⟩
theorem Tch.trans {ts us : List Nat} {σ σ1 σ2 : L2.St} (a : Tch ts σ σ1) (b : Tch us σ1 σ2) : Tch (ts ++ us) σ σ2 :=
  ⟨b.1.trans a.1, fun j h => (b.2 j fun z => h (List.mem_append_right _ z)).trans (a.2 j fun z => h (List.mem_append_left _ z))⟩
theorem Tch.set {i : Nat} {σ : L2.St} {x : Option V} : Tch [i] σ (σ.set i x) := ⟨by simp, fun j h => List.getElem?_set_ne (fun z => h (by simp [z]))⟩
theorem DG_name {i : Nat} {x : Str} (hN : X.N.Nodup) (hi : X.N[i]? = some x) (hx : Loc X.env.scope x) (hf : X.fn x = true ∨ X.env.scope.names.lookup x = some .local := by first | exact .inl rfl | exact .inr rfl | assumption) : DG X [i] (tgName i) (.Name x pos) := by
  refine ⟨fun pins s σ H v u Q I r h => ?_⟩
  obtain ⟨ι, fr, S, d, hS, hF, hr, h⟩ := h
  exact (pg_name hN hi hx hf).run pins s σ H v u Q I r (h.ok hS _ (hF.set hr) Tch.set)
theorem DGs_nil : DGs X [] [] [] := by
  refine ⟨fun pins s σ H v u Q I r h => ?_⟩
  obtain ⟨ι, fr, S, d, hS, hF, hr, h⟩ := h
  cases d with
  | nil => cases hr; exact pgs_nil.run pins s σ H _ u Q I r ⟨rfl, h.ok hS _ hF Tch.refl⟩
  | cons _ _ => exact h.bad
theorem DGs_cons {t : Expr} {ts : List Expr} {n m : List Nat} {g : D → Frame → M Frame} {gs : List (D → Frame → M Frame)} (h1 : DG X n g t) (h2 : DGs X m gs ts)
    (hs : (assignEach (t :: ts) X.env).map (·.2) = assign t X.env :: (assignEach ts X.env).map (·.2) := by rfl) : DGs X (n ++ m) (g :: gs) (t :: ts) := by
  refine ⟨fun pins s σ H v u Q I r h => ?_⟩
  obtain ⟨ι, fr, S, d, hS, hF, hr, h⟩ := h
  cases d with
  | nil => exact h.bad
  | cons d ds =>
    obtain ⟨v1, vr, rfl, r1, r2⟩ := hr
    refine (pgs_cons h1 h2 hs).run pins s σ H _ u Q I r ⟨v1, vr, rfl, ι, fr, S, d, hS, hF, r1, ?_⟩
    have h' : Po X.K X.mg ι H (bnd (g d fr) (fun fr1 => tgAll gs ds fr1) S) (kG X.K (n ++ m) σ Q) (fun _ _ _ _ => False) := h
    exact h'.bnd.imp (fun fr1 S1 ι1 H1 m1 s1 q σ1 f1 t1 => ⟨ι1, fr1, S1, ds, s1, f1, m1.rps r2, q.imp (fun fr2 S2 ι2 H2 m2 s2 w σ2 f2 t2 => w σ2 f2 (t1.trans t2)) fun _ _ _ _ _ _ z => z⟩) fun _ _ _ _ _ _ z => z
theorem DG_tup {ts : List Expr} {k : Nat} {n : List Nat} {gs : List (D → Frame → M Frame)} (hc : X.calm = true) (h : DGs X n gs ts) (hl : ts.length = gs.length := by rfl)
    (hn : (assignEach ts X.env).length = ts.length := by rfl) (hst : (assignEach ts X.env).findIdx? (·.1) = none := by rfl) : DG X n (tgTup gs) (.Tuple ts k pos) := by
  refine ⟨fun pins s σ H v u Q I r h' => ?_⟩
  obtain ⟨ι, fr, S, d, hS, hF, hr, h'⟩ := h'
  cases d with
  | tup l =>
    obtain ⟨a, vs, rfl, ha, rs⟩ := hr
    have h2 : Po X.K X.mg ι H ((if l.length = gs.length then tgAll gs l fr else bad) S) (kG X.K n σ Q) (fun _ _ _ _ => False) := h'
    split at h2
    · rename_i hlen
      exact (pg_tup hc h hn hst).run pins s σ H _ u Q I r ⟨a, vs, rfl, .of ha, by rw [← rs.length, hlen, hl], ι, fr, S, l, hS, hF, rs, h2⟩
    · exact h2.bad
  | _ => exact h'.bad
/-- target = value -/
def asgG (g : D → Frame → M Frame) (f : Frame → M D) : SM := fun fr S => exS (f fr S) fr fun d S1 => match g d fr S1 with
  | .ok fr' S' => .ok .nx fr' S'
  | _ => .bad
theorem DS_asg {tg : Expr} {n : List Nat} {g : D → Frame → M Frame} (he : DE X W fe e) (hg : DG X n g tg) (hs : swapsWithSole [tg] e pos.line X.env = pure false := by rfl) (hw : swappedStores [tg] e X.env = pure none := by rfl)
    (h1 : (assignEach [tg] X.env).map (·.2) = [assign tg X.env] := by rfl) : DS X W (asgG g fe) (.Assign [tg] e pos) := by
  refine DS.of (ps_asg he hg hs hw h1) fun D σ H ι fr S s f h => ⟨ι, fr, S, s, f, (h.ex f).imp (fun d S1 ι1 H1 m1 s1 h1 v r1 => ?_) fun _ _ _ _ _ _ z => z⟩
  refine ⟨ι1, fr, S1, d, s1, m1.fr f, r1, ?_⟩
  split at h1
  · rename_i fr' S' e
    rw [e]
    exact fun ι2 H2 m2 s2 σ2 f2 _ => h1 ι2 σ2 H2 m2 s2 f2
  · exact h1.elim

/-! ### loops -/
abbrev Src := Store → Option (List D)
/-- what a loop walks, on data -/
structure ItD (K : PySem.W.Frag) (mg : Str → Option Value) (J : It) (A : List Addr → Hp → Prop) (src : Src) : Prop where
  mono : ∀ ι H ι' H', Mw ι H ι' H' → A ι H → A ι' H'
  stop : ∀ (ι : List Addr) (S : Store) (H : Hp) (xs : List D) (i : Nat), SR K mg ι S H → A ι H → src S = some xs → xs.length ≤ i → J.stop i H
  go : ∀ (ι : List Addr) (S : Store) (H : Hp) (xs : List D) (i : Nat) (x : D), SR K mg ι S H → A ι H → src S = some xs → xs[i]? = some x → J.go i H
  yld : ∀ (ι : List Addr) (S : Store) (H : Hp) (xs : List D) (i : Nat) (x : D) (v : V) (H' : Hp), SR K mg ι S H → A ι H → src S = some xs → xs[i]? = some x → J.yld i H v H' → Mn ι H ι H' ∧ SR K mg ι S H' ∧ Rp K ι H' x v
def DI (X : Cx) (W : WE) (f : Frame → M Src) (tg iter : Expr) : Prop :=
  ∃ wi, PI X tg iter wi ∧ ∀ σ H ι fr S (R : It → Hp → Prop), SR X.K X.mg ι S H → FR X.K ι fr σ H → Po X.K X.mg ι H (f fr S) (fun src _ ι' H' => ∀ J A, ItD X.K X.mg J A src → A ι' H' → R J H') (kX X.K X.mg W σ) → wi σ H R
open Classical in
noncomputable def forL (src : Src) (xs : List D) (g : D → Frame → M Frame) (body : SM) : List D → SM
  | [], fr, S => if src S = some xs then .ok .nx fr S else .bad
  | x :: r, fr, S => if src S = some xs then (match g x fr S with
      | .ok fr1 S1 => (match body fr1 S1 with
        | .ok .nx fr2 S2 => forL src xs g body r fr2 S2
        | .ok .ct fr2 S2 => forL src xs g body r fr2 S2
        | .ok .bk fr2 S2 => .ok .nx fr2 S2
        | q => q)
      | _ => .bad)
    else .bad
noncomputable def forF (f : Frame → M Src) (g : D → Frame → M Frame) (body : SM) : SM := fun fr S => exS (f fr S) fr fun src S1 => match src S1 with
  | some xs => forL src xs g body xs fr S1
  | none => .bad
theorem DS_for {tg iter : Expr} {body : List Stmt} {fi : Frame → M Src} {n : List Nat} {g : D → Frame → M Frame} (hp : PassesOwn (model X.prog X.w) X.A X.env X.xe) (hc : X.calm = true) (hi : DI X W fi tg iter) (hg : DG X n g tg) (hb : DSs X W f body)
    (hs : ∀ x, foldedSetIterable iter X.env x = pure x := by intro _; rfl) : DS X W (forF fi g f) (.For tg iter body [] pos) := by
  obtain ⟨wi, h1, h2⟩ := hi
  refine DS.of (ps_for hp hc h1 hg hb hs) fun D σ H ι fr S s fr' h => h2 σ H ι fr S _ s fr' ((h.ex fr').imp (fun src S1 ι1 H1 m1 s1 q J A T a => ?_) fun _ _ _ _ _ _ z => z)
  cases hx : src S1 with
  | none => rw [hx] at q; exact q.elim
  | some xs =>
    rw [hx] at q
    refine ⟨fun i m σ H => m = xs.length - i ∧ ∃ ι fr S, A ι H ∧ SR X.K X.mg ι S H ∧ FR X.K ι fr σ H ∧ PoS X.K X.mg W ι H (forL src xs g f (xs.drop i) fr S) D, ⟨_, rfl, ι1, fr, S1, a, s1, m1.fr fr', by simpa using q⟩, ?_⟩
    rintro i m σ2 H2 ⟨rfl, ι2, fr2, S2, a2, s2, f2, q2⟩
    by_cases hi : i < xs.length
    · rw [List.drop_eq_getElem_cons hi] at q2
      unfold forL at q2
      split at q2
      · rename_i hsrc
        have hxi : xs[i]? = some xs[i] := List.getElem?_eq_getElem hi
        refine .inr ⟨T.go ι2 S2 H2 xs i _ s2 a2 hsrc hxi, fun σ3 H3 => ∃ ι3 fr3 S3, A ι3 H3 ∧ SR X.K X.mg ι3 S3 H3 ∧ FR X.K ι3 fr3 σ3 H3 ∧ PoS X.K X.mg W ι3 H3 (forL src xs g f (xs.drop (i + 1)) fr3 S3) D,
          fun σ3 H3 w => ⟨_, by omega, rfl, w⟩, fun x H3 hy => ?_⟩
        obtain ⟨m3, s3, r3⟩ := T.yld ι2 S2 H2 xs i _ x H3 s2 a2 hsrc hxi hy
        cases eg : g xs[i] fr2 S2 with
        | ok fr4 S4 =>
          rw [eg] at q2
          refine ⟨ι2, fr2, S2, _, s3, m3.fr f2, r3, ?_⟩
          rw [eg]
          refine fun ι4 H4 m4 s4 σ4 f4 _ => ⟨ι4, fr4, S4, s4, f4, ?_⟩
          have a4 : A ι4 H4 := T.mono _ _ _ _ (m3.trans m4).w a2
          have q4 := PoS.from (m3.trans m4) q2
          cases e : f fr4 S4 with
          | ok fl fr5 S5 =>
            simp only [e] at q4
            cases fl with
            | nx => exact fun ι5 σ5 H5 m5 s5 f5 => ⟨ι5, fr5, S5, T.mono _ _ _ _ m5.w a4, s5, f5, PoS.from m5 q4⟩
            | ct => exact fun ι5 σ5 H5 m5 s5 f5 => ⟨ι5, fr5, S5, T.mono _ _ _ _ m5.w a4, s5, f5, PoS.from m5 q4⟩
            | bk => exact fun ι5 σ5 H5 m5 s5 f5 => q4 ι5 σ5 H5 m5 s5 f5
            | rt d => exact fun ι5 σ5 H5 m5 s5 f5 => q4 ι5 σ5 H5 m5 s5 f5
          | err x fr5 S5 => simp only [e] at q4; exact q4
          | bad => simp only [e] at q4; exact q4
        | err x S4 => rw [eg] at q2; exact q2.elim
        | bad => rw [eg] at q2; exact q2.elim
      · exact q2.elim
    · rw [List.drop_eq_nil_of_le (by omega)] at q2
      unfold forL at q2
      split at q2
      · rename_i hsrc
        exact .inl ⟨T.stop ι2 S2 H2 xs i s2 a2 hsrc (by omega), q2.ok s2 f2⟩
      · exact q2.elim
end
end DL
namespace DL
open PySem PySem.Spec PyProof.Rows L2
open SeqAt (shaped)
section
variable {X : Cx} {W : WE} {a b c e tg : Expr} {pos : Pos} {fa fb fc : Frame → M D} {ι : List Addr} {H : Hp} {σ : L2.St} {s : Shared} {pins : List (Addr × Obj)}
/-- iter of a list or a tuple that is read -/
theorem it_seq {R : It → Hp → Prop} {p : Addr} {vs : List V} {E : Value → Shared → Prop} (I : Inv X pins σ H s) (h : (SqL X.K H p vs ∧ R (Itl X.K p) H) ∨ (SqT X.K H p vs ∧ R (Itt X.K p) H)) :
    wpAny (model X.prog X.w) X.A (pyIter (.ref p)) (PIE X pins σ tg R) E s := by
  have new : ∀ b ∈ [s.heap.objs.size], FpOk X pins H b := fun b hb => by
    obtain rfl : b = s.heap.objs.size := by simpa using hb
    exact I.fpOk (Nat.le_refl _) (I.hok.fresh (Nat.le_refl _))
  rcases h with ⟨h, q⟩ | ⟨h, q⟩
  · obtain ⟨us, _, P, _⟩ := I.list h
    exact wpAny_pyIter_list P.isList ⟨_, _, _, _, H, rfl, I.kept (t' := s.toks) (fun _ _ z => Heap.get?_push_of_some _ z), turn_list p _, ⟨_, Heap.get?_push_size _ rfl, rfl, rfl⟩, new, q⟩
  · obtain ⟨us, _, P, _⟩ := I.tuple h
    exact wpAny_pyIter_tuple (show s.heap.IsTuple p us.toArray from P) ⟨_, _, _, _, H, rfl, I.kept (t' := s.toks) (fun _ _ z => Heap.get?_push_of_some _ z), turn_tuple p _, ⟨_, Heap.get?_push_size _ rfl, rfl, rfl⟩, new, q⟩
def iSeq (K : PySem.W.Frag) (tl : TE) : TI := fun σ H R => tl σ H fun x H1 => ∃ p vs, x = .ref p ∧ ((SqL K H1 p vs ∧ R (Itl K p) H1) ∨ (SqT K H1 p vs ∧ R (Itt K p) H1))
theorem pi_seq {tl : TE} (hl : PE X e tl) : PI X tg e (iSeq X.K tl) := by
  refine ⟨fun pins s σ H R I h => thn (hl.run pins s σ H _ I h) fun v s1 q => ?_⟩
  obtain ⟨x, H1, I1, r1, p, vs, rfl, h1⟩ := q
  obtain rfl : v = Value.ref p := r1
  exact it_seq I1 h1
/-- a list or a tuple, by its value -/
def srcSeq (d : D) : Src := fun S => seqL S d
theorem ItD_list {p : Addr} {d : D} (hd : ∀ l, d ≠ .tup l ∧ d ≠ .ctu l ∧ d ≠ .ptu l) : ItD X.K X.mg (Itl X.K p) (fun ι H => Rp X.K ι H d (.ref p)) (srcSeq d) := by
  have at_ : ∀ ι S H xs, SR X.K X.mg ι S H → Rp X.K ι H d (.ref p) → srcSeq d S = some xs → ∃ vs, SqL X.K H p vs ∧ Rps X.K ι H xs vs := fun ι S H xs s r h => by
    have h' : lstL S d = some xs := by
      cases d with
      | tup l => exact absurd rfl (hd l).1
      | ctu l => exact absurd rfl (hd l).2.1
      | ptu l => exact absurd rfl (hd l).2.2
      | _ => exact h
    obtain ⟨a, vs, e, h1, h2⟩ := lst_at s r h'
    cases e
    exact ⟨vs, h1, h2⟩
  refine ⟨fun _ _ _ _ m r => m.rp r, fun ι S H xs i s r h hl => ?_, fun ι S H xs i x s r h hx => ?_, fun ι S H xs i x v H' s r h hx hy => ?_⟩
  · obtain ⟨vs, h1, h2⟩ := at_ ι S H xs s r h
    exact ⟨vs, h1, by rw [← h2.length]; exact hl⟩
  · obtain ⟨vs, h1, h2⟩ := at_ ι S H xs s r h
    obtain ⟨v, hv, _⟩ := h2.get hx
    exact ⟨vs, v, h1, hv⟩
  · obtain ⟨vs, h1, h2⟩ := at_ ι S H xs s r h
    obtain ⟨u, hu, ru⟩ := h2.get hx
    obtain ⟨rfl, hy⟩ := hy
    have e := hy vs h1
    rw [hu] at e
    cases e
    exact ⟨Mn.refl, s, ru⟩
theorem ItD_tup {p : Addr} {l : List D} : ItD X.K X.mg (Itt X.K p) (fun ι H => ∃ vs, SqT X.K H p vs ∧ Rps X.K ι H l vs) (fun _ => some l) := by
  refine ⟨fun _ _ _ _ m ⟨vs, h1, h2⟩ => ⟨vs, m.sqT h1, m.rps h2⟩, fun ι S H xs i s ⟨vs, h1, h2⟩ h hl => ?_, fun ι S H xs i x s ⟨vs, h1, h2⟩ h hx => ?_, fun ι S H xs i x v H' s ⟨vs, h1, h2⟩ h hx hy => ?_⟩
  all_goals cases h
  · exact ⟨vs, h1, by rw [← h2.length]; exact hl⟩
  · obtain ⟨v, hv, _⟩ := h2.get hx
    exact ⟨vs, v, h1, hv⟩
  · obtain ⟨u, hu, ru⟩ := h2.get hx
    obtain ⟨rfl, hy⟩ := hy
    have e := hy vs h1
    rw [hu] at e
    cases e
    exact ⟨Mn.refl, s, ru⟩
def itF (f : Frame → M D) : Frame → M Src := fun fr => bnd (f fr) fun d => fun S => match seqL S d with
  | some _ => .ok (srcSeq d) S
  | none => .bad
theorem DI_seq (ha : DE X W fa e) : DI X W (itF fa) tg e := by
  refine ⟨_, pi_seq ha, fun σ H ι fr S R s f h => ⟨ι, fr, S, s, f, h.bnd.imp (fun d S1 ι1 H1 m1 s1 h1 v r1 => ?_) fun _ _ _ _ _ _ z => z⟩⟩
  split at h1
  · rename_i l hl
    have h2 := h1.ok s1
    by_cases hd : ∃ l, d = .tup l ∨ d = .ctu l ∨ d = .ptu l
    · obtain ⟨l', rfl | rfl | rfl⟩ := hd
      · obtain ⟨p, vs, rfl, hq, rs⟩ := r1
        exact ⟨p, vs, rfl, .inr ⟨.of hq, h2 _ _ ItD_tup ⟨vs, .of hq, rs⟩⟩⟩
      · obtain ⟨p, vs, rfl, hq, rs⟩ := r1
        exact ⟨p, vs, rfl, .inr ⟨hq, h2 _ _ ItD_tup ⟨vs, hq, rs⟩⟩⟩
      · obtain ⟨p, o, vs, rfl, hq, _, rs⟩ := r1
        exact ⟨p, vs, rfl, .inr ⟨.inl (.inr ⟨o, hq⟩), h2 _ _ ItD_tup ⟨vs, .inl (.inr ⟨o, hq⟩), rs⟩⟩⟩
    · have h' : lstL S1 d = some l := by
        cases d with
        | tup l' => exact absurd ⟨l', .inl rfl⟩ hd
        | ctu l' => exact absurd ⟨l', .inr (.inl rfl)⟩ hd
        | ptu l' => exact absurd ⟨l', .inr (.inr rfl)⟩ hd
        | _ => exact hl
      obtain ⟨p, vs, rfl, hq, rs⟩ := lst_at s1 r1 h'
      exact ⟨p, vs, rfl, .inl ⟨hq, h2 _ _ (ItD_list fun l => ⟨fun z => hd ⟨l, .inl z⟩, fun z => hd ⟨l, .inr (.inl z)⟩, fun z => hd ⟨l, .inr (.inr z)⟩⟩) r1⟩⟩
  · exact h1.bad
/-- a range -/
def rngL (lo : Int) (n : Nat) : List D := (List.range n).map fun i => .int (lo + (i : Nat))
theorem ItD_range {lo : Int} {n : Nat} : ItD X.K X.mg (Itr lo n) (fun _ _ => True) (fun _ => some (rngL lo n)) := by
  refine ⟨fun _ _ _ _ _ _ => trivial, fun ι S H xs i s _ h hl => ?_, fun ι S H xs i x s _ h hx => ?_, fun ι S H xs i x v H' s _ h hx hy => ?_⟩
  all_goals cases h
  · exact (show n ≤ i by simpa [rngL] using hl)
  · have := (List.getElem?_eq_some_iff.mp hx).1
    exact (show i < n by simpa [rngL] using this)
  · obtain ⟨rfl, rfl⟩ := hy
    refine ⟨Mn.refl, s, ?_⟩
    obtain ⟨h1, h2⟩ := List.getElem?_eq_some_iff.mp hx
    simp [rngL] at h2
    subst h2
    rfl
def rng1 (l : List D) : M Src := fun S => match l with
  | [.int j] => if -(2 ^ 62) ≤ j ∧ j < 2 ^ 62 then .ok (fun _ => some (rngL 0 j.toNat)) S else .bad
  | _ => .bad
def rng2 (l : List D) : M Src := fun S => match l with
  | [.int i, .int j] => if -(2 ^ 62) ≤ i ∧ i < 2 ^ 62 ∧ -(2 ^ 62) ≤ j ∧ j < 2 ^ 62 then .ok (fun _ => some (rngL i (j - i).toNat)) S else .bad
  | _ => .bad
def rngF (g : List D → M Src) (fs : List (Frame → M D)) : Frame → M Src := fun fr => bnd (seqA fs fr) g
theorem DI_range1 {p : Pos} {fs : List (Frame → M D)} (hg : Gl X "range") (hm : X.mg "range" = none) (ha : DA X W (seqA fs) [a]) (hs : starEach [a] X.env = [(false, eval a X.env)] := by rfl) : DI X W (rngF rng1 fs) tg (.Call (.Name "range" p) [a] [] pos) := by
  refine ⟨_, pi_range1 hg hm ha hs, fun σ H ι fr S R s f h => ⟨ι, fr, S, s, f, h.bnd.imp (fun l S1 ι1 H1 m1 s1 h1 vs r1 => ?_) fun _ _ _ _ _ _ z => z⟩⟩
  unfold rng1 at h1
  split at h1
  · rename_i j
    split at h1
    · rename_i hj
      obtain ⟨v, r, rfl, rv, rr⟩ := r1
      cases rv; cases rr
      exact ⟨j, rfl, hj.1, hj.2, h1.ok s1 _ _ ItD_range trivial⟩
    · exact h1.bad
  · exact h1.bad
end

/-! ### comprehensions -/
def wipeF (fr : Frame) : List Nat → Frame
  | [] => fr
  | i :: r => (wipeF fr r).set i none
open Classical in
noncomputable def cmpL (src : Src) (xs : List D) (g : D → Frame → M Frame) (t : Frame → M Bool) (elt : Frame → M D) (fr : Frame) : List D → M (List D)
  | [] => fun S => if src S = some xs then .ok [] S else .bad
  | x :: r => fun S => if src S = some xs then (match g x fr S with
      | .ok fr1 S1 => (match t fr1 S1 with
        | .ok true S2 => (match elt fr1 S2 with
          | .ok y S3 => bnd (cmpL src xs g t elt fr r) (fun ys => ret (y :: ys)) S3
          | _ => .bad)
        | .ok false S2 => cmpL src xs g t elt fr r S2
        | _ => .bad)
      | _ => .bad) else .bad
/-- no exception leaves -/
def nox {α : Type} (m : M α) : M α := fun S => match m S with
  | .err _ _ => .bad
  | r => r
noncomputable def cmpF (vs : List Nat) (f : Frame → M Src) (g : D → Frame → M Frame) (t : Frame → M Bool) (elt : Frame → M D) : Frame → M (List D) := fun fr => bnd (f fr) fun src => fun S => match src S with
  | some xs => if xs.length ≤ sizeLine then nox (cmpL src xs g t elt (wipeF fr vs) xs) S else .bad
  | none => .bad
noncomputable def cmpD (vs : List Nat) (f : Frame → M Src) (g : D → Frame → M Frame) (t : Frame → M Bool) (elt : Frame → M D) : Frame → M D := fun fr => bnd (cmpF vs f g t elt fr) fun l => ret (.lst l)
noncomputable def cmpO (vs : List Nat) (f : Frame → M Src) (g : D → Frame → M Frame) (t : Frame → M Bool) (elt : Frame → M D) : Frame → M D := fun fr => bnd (cmpF vs f g t elt fr) fun l => newO (.lst l)
def yesF : Frame → M Bool := fun _ => ret true
def DTs (X : Cx) (W : WE) (f : Frame → M Bool) (es : List Expr) : Prop := PTs X es (trT X.K X.mg W f)
theorem DTs_nil {X : Cx} {W : WE} : DTs X W yesF [] := ⟨fun pins s σ H Q I ⟨ι, fr, S, hS, hF, h⟩ => pts_nil.run pins s σ H Q I (h.ok hS)⟩
section
variable {K : PySem.W.Frag} {mg : Str → Option Value} {ι : List Addr} {H : Hp}
theorem wipe_FR {fr : Frame} {σ : L2.St} (f : FR K ι fr σ H) : ∀ vs, FR K ι (wipeF fr vs) (wipe σ vs) H
  | [] => f
  | i :: r => by
    obtain ⟨h1, h2⟩ := wipe_FR f r
    refine ⟨by simp [wipeF, wipe, h1], fun j d e => ?_⟩
    unfold wipeF at e
    unfold wipe
    by_cases hj : i = j
    · subst hj
      have hl := (List.getElem?_eq_some_iff.mp e).1
      rw [List.length_set] at hl
      rw [List.getElem?_set_self hl] at e
      cases e
    · rw [List.getElem?_set_ne hj] at e ⊢
      exact h2 j d e
theorem wipe_same {ts : List Nat} {σ σ' : L2.St} (t : Tch ts σ σ') : ∀ {vs : List Nat}, (∀ i ∈ ts, i ∈ vs) → wipe σ' vs = wipe σ vs := by
  have key : ∀ vs : List Nat, (wipe σ' vs).length = (wipe σ vs).length ∧ ∀ j, (wipe σ' vs)[j]? = if j ∈ vs ∧ j < σ.length then some none else σ'[j]? := by
    intro vs
    induction vs with
    | nil => exact ⟨t.1, fun j => by simp [wipe]⟩
    | cons v vs ih =>
      refine ⟨by simp [wipe, ih.1], fun j => ?_⟩
      unfold wipe
      rw [List.getElem?_set, ih.2 j]
      have hl : (wipe σ' vs).length = σ.length := by rw [wipe_length, t.1]
      by_cases h : v = j
      · subst h
        by_cases h2 : v < σ.length
        · simp [hl, h2]
        · simp [hl, h2]
          rw [t.1]; omega
      · have h3 : j ≠ v := Ne.symm h
        simp [h, h3]
  have key2 : ∀ vs : List Nat, ∀ j, (wipe σ vs)[j]? = if j ∈ vs ∧ j < σ.length then some none else σ[j]? := by
    intro vs
    induction vs with
    | nil => exact fun j => by simp [wipe]
    | cons v vs ih =>
      intro j
      unfold wipe
      rw [List.getElem?_set, ih j]
      have hl : (wipe σ vs).length = σ.length := wipe_length σ vs
      by_cases h : v = j
      · subst h
        by_cases h2 : v < σ.length
        · simp [hl, h2]
        · simp [hl, h2]
      · have h3 : j ≠ v := Ne.symm h
        simp [h, h3]
  intro vs hv
  apply List.ext_getElem?
  intro j
  rw [(key vs).2 j, key2 vs j]
  split
  · rfl
  · rename_i h
    by_cases hj : j ∈ vs
    · have : ¬ j < σ.length := fun z => h ⟨hj, z⟩
      rw [List.getElem?_eq_none_iff.mpr (by rw [t.1]; omega), List.getElem?_eq_none_iff.mpr (by omega)]
    · exact t.2 j fun z => hj (hv j z)
end
section
variable {X : Cx} {elt tg iter : Expr} {ifs : List Expr} {scope : Scope} {pos : Pos} {own : List (Str × Nat)} {fi : Frame → M Src} {g : D → Frame → M Frame} {ft : Frame → M Bool} {fe : Frame → M D} {ts : List Nat}
def W0 : WE := fun _ _ _ _ => False
theorem wipe_wipe {σ : L2.St} : ∀ vs : List Nat, wipe (wipe σ vs) vs = wipe σ vs := fun vs => wipe_same (ts := vs) (by
  refine ⟨wipe_length σ vs, fun j hj => ?_⟩
  exact wipe_out hj) fun i h => h
theorem lc_data {wi : TI} {W : WE} {σ : L2.St} {H : Hp} {ι : List Addr} {fr : Frame} {S : Store} {vs : List Nat} {Q : VK} {k : List D → Store → List Addr → Hp → Prop}
    (h2 : ∀ σ H ι fr S (R : It → Hp → Prop), SR X.K X.mg ι S H → FR X.K ι fr σ H → Po X.K X.mg ι H (fi fr S) (fun src _ ι' H' => ∀ J A, ItD X.K X.mg J A src → A ι' H' → R J H') (kX X.K X.mg W σ) → wi σ H R)
    (hts : ∀ i ∈ ts, i ∈ vs) (s : SR X.K X.mg ι S H) (f : FR X.K ι fr σ H) (h : Po X.K X.mg ι H (cmpF vs fi g ft fe fr S) k (kX X.K X.mg W σ))
    (hk : ∀ l S' ι0 H0 ι' H' p vv, Mn ι H ι0 H0 → Mn ι0 H0 ι' H' → H0 p = none → (∀ ι2 H2, Mn ι0 H0 ι2 H2 → SR X.K X.mg ι2 S' H2 → k l S' ι2 H2) → SR X.K X.mg ι' S' H' → H' p = some (.lst vv) → p ∉ ι' → Rps X.K ι' H' l vv → Q (.ref p) H') :
    tLc wi (trG X.K X.mg ts g) (trT X.K X.mg W0 ft) (trE X.K X.mg W0 fe) vs σ H Q := by
  refine h2 σ H ι fr S _ s f (h.bnd.imp (fun src S1 ι1 H1 m1 s1 q J A T a L hL => ?_) fun _ _ _ _ _ _ z => z)
  cases hx : src S1 with
  | none => rw [hx] at q; exact q.elim
  | some xs =>
    simp only [hx] at q
    split at q
    · rename_i hlen
      have q' : Po X.K X.mg ι1 H1 (cmpL src xs g ft fe (wipeF fr vs) xs S1) k (fun _ _ _ _ => False) := by
        unfold nox at q
        cases e : cmpL src xs g ft fe (wipeF fr vs) xs S1 with
        | ok l S2 => rw [e] at q; exact q
        | err x S2 => rw [e] at q; exact q.elim
        | bad => rw [e] at q; exact q
      have hLi : L ∉ ι1 := fun z => (s1.occ L z).1 hL
      refine ⟨fun i m H => m = xs.length - i ∧ ∃ ι2 S2 acc vv, Mn ι1 H1 ι2 H ∧ A ι2 H ∧ SR X.K X.mg ι2 S2 H ∧ FR X.K ι2 (wipeF fr vs) (wipe σ vs) H ∧ H L = some (.lst vv) ∧ L ∉ ι2 ∧ Rps X.K ι2 H acc vv ∧ vv.length ≤ i ∧
        Po X.K X.mg ι1 H1 (cmpL src xs g ft fe (wipeF fr vs) (xs.drop i) S2) (fun ys => k (acc ++ ys)) (fun _ _ _ _ => False), ⟨_, rfl, ι1, S1, [], [], ?_⟩, ?_⟩
      · have mf : Mn ι1 H1 ι1 (upd H1 L (.lst [])) := Mn.fresh hL
        exact ⟨mf, T.mono _ _ _ _ mf.w a, s1.fresh hL, wipe_FR ((m1.trans mf).fr f) vs, upd_same, hLi, rfl, Nat.le_refl _, by simpa using q'⟩
      · rintro i m H2 ⟨rfl, ι2, S2, acc, vv, m2, a2, s2, f2, hD, hDi, ra, hvl, q2⟩
        by_cases hi : i < xs.length
        · rw [List.drop_eq_getElem_cons hi] at q2
          unfold cmpL at q2
          split at q2
          · rename_i hsrc
            have hxi : xs[i]? = some xs[i] := List.getElem?_eq_getElem hi
            refine .inr ⟨T.go ι2 S2 H2 xs i _ s2 a2 hsrc hxi, fun H3 => ∃ ι3 S3 acc vv, Mn ι1 H1 ι3 H3 ∧ A ι3 H3 ∧ SR X.K X.mg ι3 S3 H3 ∧ FR X.K ι3 (wipeF fr vs) (wipe σ vs) H3 ∧ H3 L = some (.lst vv) ∧ L ∉ ι3 ∧ Rps X.K ι3 H3 acc vv ∧ vv.length ≤ i + 1 ∧
              Po X.K X.mg ι1 H1 (cmpL src xs g ft fe (wipeF fr vs) (xs.drop (i + 1)) S3) (fun ys => k (acc ++ ys)) (fun _ _ _ _ => False), fun H3 w => ⟨_, by omega, rfl, w⟩, fun x H3 hy => ?_⟩
            obtain ⟨m3, s3, r3⟩ := T.yld ι2 S2 H2 xs i _ x H3 s2 a2 hsrc hxi hy
            have hD3 := m3.kept L _ hD hDi
            have stay : ∀ {ι' H'}, Mn ι2 H3 ι' H' → H' L = some (.lst vv) ∧ L ∉ ι' := fun {ι' H'} m => by
              refine ⟨m.kept L _ hD3 hDi, fun z => ?_⟩
              obtain ⟨t, rfl, ht⟩ := m.pre
              rcases List.mem_append.mp z with z | z
              · exact hDi z
              · have := ht L z; rw [hD3] at this; cases this
            cases eg : g xs[i] (wipeF fr vs) S2 with
            | err x S4 => rw [eg] at q2; exact q2.elim
            | bad => rw [eg] at q2; exact q2.elim
            | ok fr4 S4 =>
              rw [eg] at q2
              refine ⟨ι2, wipeF fr vs, S2, _, s3, m3.fr f2, r3, ?_⟩
              rw [eg]
              intro ι4 H4 m4 s4 σ4 f4 t4
              refine ⟨(wipe_same t4 hts).trans (wipe_wipe vs), ι4, fr4, S4, s4, f4, ?_⟩
              simp only at q2
              cases et : ft fr4 S4 with
              | err x S5 => simp only [et] at q2; exact q2.elim
              | bad => simp only [et] at q2; exact q2.elim
              | ok b S5 =>
                simp only [et] at q2
                intro ι5 H5 m5 s5
                cases b with
                | false =>
                  refine (if_neg Bool.false_ne_true).mpr ?_
                  have mm := m4.trans m5
                  obtain ⟨h5, n5⟩ := stay mm
                  exact ⟨ι5, S5, acc, vv, m2.trans (m3.trans mm), T.mono _ _ _ _ (m3.trans mm).w a2, s5, (m3.trans mm).fr f2, h5, n5, (m3.trans mm).rps ra, by omega, q2⟩
                | true =>
                  refine (if_pos rfl).mpr ⟨ι5, fr4, S5, s5, m5.fr f4, ?_⟩
                  simp only at q2
                  cases ee : fe fr4 S5 with
                  | err x S6 => simp only [ee] at q2; exact q2.elim
                  | bad => simp only [ee] at q2; exact q2.elim
                  | ok y S6 =>
                    simp only [ee] at q2
                    intro ι6 H6 m6 s6 v6 r6
                    have mm := m3.trans (m4.trans (m5.trans m6))
                    obtain ⟨h6, n6⟩ := stay (m4.trans (m5.trans m6))
                    have mw : Mw ι6 H6 ι6 (upd H6 L (.lst (vv ++ [v6]))) := Mw.other h6 (by intro _ z; cases z) (by intro _ _ z; cases z)
                    refine ⟨vv, h6, by omega, ι6, S6, acc ++ [y], vv ++ [v6], (m2.trans mm).other hL, T.mono _ _ _ _ mw (T.mono _ _ _ _ mm.w a2), s6.other h6 (by intro _ z; cases z) (by intro _ _ z; cases z) n6, mw.fr (mm.fr f2), upd_same, n6,
                      mw.rps ((mm.rps ra).app ⟨v6, [], rfl, r6, rfl⟩), by simp; omega, ?_⟩
                    unfold bnd at q2
                    cases ec : cmpL src xs g ft fe (wipeF fr vs) (xs.drop (i + 1)) S6 with
                    | ok ys S7 =>
                      simp only [ec] at q2
                      intro ι7 H7 m7 s7
                      have := (q2 ι7 H7 m7 s7)
                      simpa using this
                    | err x S7 => simp only [ec] at q2; exact q2
                    | bad => simp only [ec] at q2; exact q2
          · exact q2.elim
        · rw [List.drop_eq_nil_of_le (by omega)] at q2
          unfold cmpL at q2
          split at q2
          · rename_i hsrc
            refine .inl ⟨T.stop ι2 S2 H2 xs i s2 a2 hsrc (by omega), hk acc S2 ι1 H1 ι2 H2 L vv m1 m2 hL (fun ι3 H3 m3 s3 => ?_) s2 hD hDi ra⟩
            have := q2 ι3 H3 m3 s3
            simpa using this
          · exact q2.elim
    · exact q.elim
/-- the block's parts, in every block -/
structure Blk (X : Cx) (scope : Scope) (ts : List Nat) (g : D → Frame → M Frame) (ft : Frame → M Bool) (fe : Frame → M D) (tg : Expr) (ifs : List Expr) (elt : Expr) : Prop where
  tgt : ∀ (s : Shared) (H : Hp) (C : Addr) (cl : List (Str × Addr)) (fp : List Addr), DG (X.blk s H scope (compEnvC scope cl C X.env) fp) ts g tg
  tst : ∀ (s : Shared) (H : Hp) (C : Addr) (cl : List (Str × Addr)) (fp : List Addr), DTs (X.blk s H scope (compEnvC scope cl C X.env) fp) W0 ft ifs
  elt : ∀ (s : Shared) (H : Hp) (C : Addr) (cl : List (Str × Addr)) (fp : List Addr), DE (X.blk s H scope (compEnvC scope cl C X.env) fp) W0 fe elt
theorem DE_cmp_ {W : WE} (hc : X.calm = true) (hN : X.N.Nodup) (hi : DI X W fi tg iter) (ok : BlkOk X.N X.env.scope scope own) (hts : ∀ i ∈ ts, i ∈ own.map (·.2)) (B : Blk X scope ts g ft fe tg ifs elt) (hs : ∀ x, foldedSetIterable iter X.env x = pure x := by intro _; rfl) :
    DE X W (cmpD (own.map (·.2)) fi g ft fe) (.ListComp elt [⟨tg, iter, ifs, 0⟩] scope pos) := by
  obtain ⟨wi, h1, h2⟩ := hi
  refine DE.of (pe_lc (g := trG X.K X.mg ts g) (tt := trT X.K X.mg W0 ft) (te := trE X.K X.mg W0 fe) hc hN h1 ok B.tgt B.tst B.elt hs) fun σ H Q ι fr S s f h => ?_
  refine lc_data h2 hts s f h.bnd fun l S' ι0 H0 ι' H' p vv _ m hp k s' hl hn r => ?_
  refine .inr ⟨p, _, rfl, hl, trivial, fun o => ?_⟩
  have mw : Mw ι' H' ι' (upd H' p (.frz o (.lst vv))) := Mw.other hl (by intro _ z; cases z) (by intro _ _ z; cases z)
  have s2 : SR X.K X.mg ι' S' (upd H' p (.frz o (.lst vv))) := s'.other hl (by intro _ z; cases z) (by intro _ _ z; cases z) hn
  exact (k ι' _ (m.other hp) s2).ok s2 _ ⟨p, vv, rfl, .inl ⟨o, upd_same⟩, mw.rps r⟩
theorem DE_cmpO {W : WE} (hc : X.calm = true) (hN : X.N.Nodup) (hi : DI X W fi tg iter) (ok : BlkOk X.N X.env.scope scope own) (hts : ∀ i ∈ ts, i ∈ own.map (·.2)) (B : Blk X scope ts g ft fe tg ifs elt) (hs : ∀ x, foldedSetIterable iter X.env x = pure x := by intro _; rfl) :
    DE X W (cmpO (own.map (·.2)) fi g ft fe) (.ListComp elt [⟨tg, iter, ifs, 0⟩] scope pos) := by
  obtain ⟨wi, h1, h2⟩ := hi
  refine DE.of (pe_lc (g := trG X.K X.mg ts g) (tt := trT X.K X.mg W0 ft) (te := trE X.K X.mg W0 fe) hc hN h1 ok B.tgt B.tst B.elt hs) fun σ H Q ι fr S s f h => ?_
  refine lc_data h2 hts s f h.bndE fun l S' ι0 H0 ι' H' p vv m0 m hp k s' hl hn r => .inl ?_
  have he := (k ι' H' m s').1
  have m2 : Mn ι0 H0 (ι' ++ [p]) H' := by
    obtain ⟨t, rfl, ht⟩ := m.pre
    refine ⟨⟨t ++ [p], by simp, fun a ha => ?_⟩, m.live, m.tups, m.frzs, m.kept⟩
    rcases List.mem_append.mp ha with ha | ha
    · exact ht a ha
    · rw [List.mem_singleton.mp ha]; exact hp
  have mw : Mw ι' H' (ι' ++ [p]) H' := ⟨⟨_, rfl⟩, fun _ _ z => z, fun _ _ _ z => z⟩
  have s2 : SR X.K X.mg (ι' ++ [p]) (S' ++ [some (.lst l)]) H' := by
    refine ⟨?_, by simp [s'.len], fun a ha => ?_, fun n o e => ?_⟩
    · rw [List.nodup_append]
      exact ⟨s'.nd, by simp, fun a ha b hb z => by simp at hb; subst hb; subst z; exact hn ha⟩
    · rcases List.mem_append.mp ha with ha | ha
      · exact s'.occ a ha
      · rw [List.mem_singleton.mp ha, hl]; exact ⟨by simp, by intro _ z; cases z⟩
    · by_cases hnl : n < S'.length
      · rw [List.getElem?_append_left hnl] at e
        obtain ⟨a, e1, r1⟩ := s'.obj n o e
        exact ⟨a, mw.ix e1, mw.or rfl r1⟩
      · have hz : n = S'.length := by
          have := (List.getElem?_eq_some_iff.mp e).1
          simp at this
          omega
        subst hz
        rw [List.getElem?_append_right (Nat.le_refl _)] at e
        simp at e
        subst e
        refine ⟨p, ?_, vv, hl, mw.rps r⟩
        rw [s'.len]
        simp
  have hb : Po X.K X.mg ι H (newO (.lst l) S') (kE X.K Q) (kX X.K X.mg W σ) := by
    have e : cmpO (own.map (·.2)) fi g ft fe fr S = newO (.lst l) S' := bnd_ok he
    rw [← e]
    exact h
  refine hb (ι' ++ [p]) H' (m0.trans m2) s2 _ ⟨p, rfl, ?_⟩
  rw [s'.len]
  simp
end
end DL
namespace DL
open PySem PySem.Spec PyProof.Rows L2
open SeqAt (shaped)

/-! ### built-ins -/
def lenD (xs : List D) : M D := fun S => match xs with
  | [.str z] => if z.length ≤ sizeLine then .ok (.int z.length) S else .bad
  | [d] => match seqL S d with
    | some l => .ok (.int l.length) S
    | none => .bad
  | _ => .bad
def absD (xs : List D) : M D := fun S => match xs with
  | [.int i] => .ok (.int (if i < 0 then -i else i)) S
  | _ => .bad
def intD (xs : List D) : M D := fun S => match xs with
  | [.int i] => .ok (.int i) S
  | [.bl b] => .ok (.int (if b then 1 else 0)) S
  | [.str z] => (match PySem.intText? z with
    | some n => if z.length ≤ 640 then .ok (.int n) S else .bad
    | none => .bad)
  | _ => .bad
def strD (xs : List D) : M D := fun S => match xs with
  | [.int i] => if i.natAbs.log2 < 1920 then .ok (.str (toString i)) S else .bad
  | [.str z] => .ok (.str z) S
  | _ => .bad
def maxI : List Int → Option Int
  | [] => none
  | x :: r => some (r.foldl (fun a b => if b > a then b else a) x)
def minI : List Int → Option Int
  | [] => none
  | x :: r => some (r.foldl (fun a b => if b < a then b else a) x)
/-- the ints of a list of ints -/
def intsL : List D → Option (List Int)
  | [] => some []
  | .int i :: r => (intsL r).map (i :: ·)
  | _ => none
def blsL : List D → Option (List Bool)
  | [] => some []
  | .bl i :: r => (blsL r).map (i :: ·)
  | _ => none
def oneL (S : Store) : List D → Option (List D)
  | [d] => lstL S d
  | _ => none
def max2D (xs : List D) : M D := fun S => match xs with
  | [.int i, .int j] => .ok (.int (if j > i then j else i)) S
  | _ => .bad
def min2D (xs : List D) : M D := fun S => match xs with
  | [.int i, .int j] => .ok (.int (if j < i then j else i)) S
  | _ => .bad
def sumD (xs : List D) : M D := fun S => match (oneL S xs).bind intsL with
  | some ns => .ok (.int ns.sum) S
  | none => .bad
def max1D (xs : List D) : M D := fun S => match ((oneL S xs).bind intsL).bind maxI with
  | some n => .ok (.int n) S
  | none => .bad
def min1D (xs : List D) : M D := fun S => match ((oneL S xs).bind intsL).bind minI with
  | some n => .ok (.int n) S
  | none => .bad
def anyD (xs : List D) : M D := fun S => match (oneL S xs).bind blsL with
  | some bs => .ok (.bl (bs.any id)) S
  | none => .bad
def allD (xs : List D) : M D := fun S => match (oneL S xs).bind blsL with
  | some bs => .ok (.bl (bs.all id)) S
  | none => .bad
def listD (xs : List D) : M D := fun S => match xs with
  | [d] => (match seqL S d with
    | some l => .ok (.lst l) S
    | none => .bad)
  | _ => .bad
def listO (xs : List D) : M D := fun S => match xs with
  | [d] => (match seqL S d with
    | some l => newO (.lst l) S
    | none => .bad)
  | _ => .bad
def tupleD (xs : List D) : M D := fun S => match xs with
  | [.ctu l] => .ok (.ctu l) S
  | [.ptu l] => .ok (.ptu l) S
  | [d] => (match seqL S d with
    | some l => .ok (.tup l) S
    | none => .bad)
  | _ => .bad
section
variable {K : PySem.W.Frag} {ι : List Addr} {H : Hp}
theorem one_at {mg : Str → Option Value} {S : Store} {xs : List D} {vs : List V} {l : List D} (s : SR K mg ι S H) (r : Rps K ι H xs vs) (h : oneL S xs = some l) : ∃ a ws, vs = [.ref a] ∧ SqL K H a ws ∧ Rps K ι H l ws := by
  match xs, h with
  | [d], h =>
    obtain ⟨v, w, rfl, r1, r2⟩ := r
    cases r2
    obtain ⟨a, ws, rfl, h1, h2⟩ := lst_at s r1 h
    exact ⟨a, ws, rfl, h1, h2⟩
end
section
variable {X : Cx} {W : WE}
theorem C_len : CalD X W (.builtin "len") lenD := by
  refine ⟨_, call_len, fun ι S H σ xs vs Q s r h => ?_⟩
  unfold lenD at h
  split at h
  · obtain ⟨v, w, rfl, r1, r2⟩ := r
    cases r1; cases r2
    split at h
    · rename_i hz
      exact ⟨_, _, rfl, ⟨hz, rfl⟩, .inl (h.ok s _ rfl)⟩
    · exact h.bad
  · obtain ⟨v, w, rfl, r1, r2⟩ := r
    cases r2
    split at h
    · rename_i l hl
      obtain ⟨a, ws, rfl, hq, rs⟩ := seq_at s r1 hl
      rw [rs.length] at h
      rcases hq with hq | hq
      · exact ⟨_, _, rfl, .inl ⟨ws, hq, rfl⟩, .inl (h.ok s _ rfl)⟩
      · exact ⟨_, _, rfl, .inr ⟨ws, hq, rfl⟩, .inl (h.ok s _ rfl)⟩
    · exact h.bad
  · exact h.bad
theorem C_abs : CalD X W (.builtin "abs") absD := by
  refine ⟨_, call_abs, fun ι S H σ xs vs Q s r h => ?_⟩
  unfold absD at h
  split at h
  · obtain ⟨v, w, rfl, r1, r2⟩ := r
    cases r1; cases r2
    exact ⟨_, rfl, .inl (h.ok s _ rfl)⟩
  · exact h.bad
theorem CallR.or {f : Value} {r r' : List V → Hp → VK → Prop} (h : CallR X f r) (h' : CallR X f r') : CallR X f (fun xs H Q => r xs H Q ∨ r' xs H Q) := fun pins s σ H xs us Q I rv q =>
  q.elim (h pins s σ H xs us Q I rv) (h' pins s σ H xs us Q I rv)
theorem C_int : CalD X W (.type "int") intD := by
  refine ⟨_, CallR.or call_int1 call_int_str, fun ι S H σ xs vs Q s r h => ?_⟩
  unfold intD at h
  split at h
  · obtain ⟨v, w, rfl, r1, r2⟩ := r
    cases r1; cases r2
    exact .inl (.inl ⟨_, rfl, .inl (h.ok s _ rfl)⟩)
  · obtain ⟨v, w, rfl, r1, r2⟩ := r
    cases r1; cases r2
    exact .inl (.inr ⟨_, rfl, .inl (h.ok s _ rfl)⟩)
  · obtain ⟨v, w, rfl, r1, r2⟩ := r
    cases r1; cases r2
    split at h
    · rename_i n hn
      split at h
      · rename_i hl
        exact .inr ⟨_, n, rfl, hn, hl, .inl (h.ok s _ rfl)⟩
      · exact h.bad
    · exact h.bad
  · exact h.bad
theorem C_str : CalD X W (.type "str") strD := by
  refine ⟨_, CallR.or call_str_int SkE.call_str_str, fun ι S H σ xs vs Q s r h => ?_⟩
  unfold strD at h
  split at h
  · obtain ⟨v, w, rfl, r1, r2⟩ := r
    cases r1; cases r2
    split at h
    · rename_i hl
      exact .inl ⟨_, rfl, hl, .inl (h.ok s _ rfl)⟩
    · exact h.bad
  · obtain ⟨v, w, rfl, r1, r2⟩ := r
    cases r1; cases r2
    exact .inr ⟨_, rfl, .inl (h.ok s _ rfl)⟩
  · exact h.bad
theorem C_max2 (hc : X.calm = true) : CalD X W (.builtin "max") max2D := by
  refine ⟨_, call_max2 hc, fun ι S H σ xs vs Q s r h => ?_⟩
  unfold max2D at h
  split at h
  · obtain ⟨v, w, rfl, r1, v2, w2, rfl, r2, r3⟩ := r
    cases r1; cases r2; cases r3
    exact ⟨_, _, rfl, .inl (h.ok s _ rfl)⟩
  · exact h.bad
theorem C_tuple : CalD X W (.type "tuple") tupleD := by
  refine ⟨_, call_tuple_of, fun ι S H σ xs vs Q s r h => ?_⟩
  unfold tupleD at h
  split at h
  · rename_i l
    obtain ⟨v, w, rfl, ⟨a, vs, rfl, hq, rs⟩, r2⟩ := r
    cases r2
    exact ⟨a, vs, rfl, .inr ⟨hq, .inl (h.ok s _ ⟨a, vs, rfl, hq, rs⟩)⟩⟩
  · rename_i l
    obtain ⟨v, w, rfl, ⟨a, o, vs, rfl, hq, hd, rs⟩, r2⟩ := r
    cases r2
    exact ⟨a, vs, rfl, .inr ⟨.inl (.inr ⟨o, hq⟩), .inl (h.ok s _ ⟨a, o, vs, rfl, hq, hd, rs⟩)⟩⟩
  · rename_i d hd hd2
    obtain ⟨v, w, rfl, r1, r2⟩ := r
    cases r2
    split at h
    · rename_i l hl
      by_cases ht : ∃ l', d = .tup l'
      · obtain ⟨l', rfl⟩ := ht
        cases hl
        obtain ⟨a, vs, rfl, hq, rs⟩ := r1
        exact ⟨a, vs, rfl, .inr ⟨.of hq, .inl (h.ok s _ ⟨a, vs, rfl, hq, rs⟩)⟩⟩
      · have h' : lstL S d = some l := by
          cases d with
          | tup l' => exact absurd ⟨l', rfl⟩ ht
          | ctu l' => exact absurd rfl (hd l')
          | ptu l' => exact absurd rfl (hd2 l')
          | _ => exact hl
        obtain ⟨a, vs, rfl, hq, rs⟩ := lst_at s r1 h'
        exact ⟨a, vs, rfl, .inl ⟨hq, nw_tup s rs h⟩⟩
    · exact h.bad
  · exact h.bad

/-! ### isinstance of a built-in class -/
def oTy : Option (Option O) → Option String
  | some (some (.lst _)) => some "list"
  | some (some (.dk _)) => some "dict"
  | some (some (.dt _)) => some "dict"
  | _ => none
def tyN (S : Store) : D → Option String
  | .non => some "NoneType"
  | .bl _ => some "bool"
  | .int _ => some "int"
  | .str _ => some "str"
  | .tup _ => some "tuple"
  | .ctu _ => some "tuple"
  | .ptu _ => some "tuple"
  | .lst _ => some "list"
  | .emp => some "dict"
  | .ob n => oTy S[n]?
def isiD (T : String) (d : D) : M D := fun S => match (tyN S d).bind fun t => kitB t T with
  | some b => .ok (.bl b) S
  | none => .bad
theorem ty_at {ι : List Addr} {S : Store} {H : Hp} {d : D} {v : V} {t : String} (s : SR X.K X.mg ι S H) (r : Rp X.K ι H d v) (h : tyN S d = some t) : TyX X.K H v (.type t) := by
  cases d with
  | non => cases r; cases h; exact .base .non
  | bl b => cases r; cases h; exact .base (.bl b)
  | int b => cases r; cases h; exact .base (.int b)
  | str b => cases r; cases h; exact .base (.str b)
  | tup l =>
    obtain ⟨a, vs, rfl, hq, _⟩ := r
    cases h
    exact .base (.tup hq)
  | ptu l =>
    obtain ⟨a, o, vs, rfl, hq, _⟩ := r
    cases h
    exact .fTuple hq
  | ctu l =>
    obtain ⟨a, vs, rfl, hq, _⟩ := r
    cases h
    rcases hq with (hq | ⟨o, hq⟩) | ⟨o, its, n, hk, hc, _⟩
    · exact .base (.tup hq)
    · exact .fTuple hq
    · exact .kTuple hk hc
  | lst l =>
    obtain ⟨a, vs, rfl, hq, _⟩ := r
    cases h
    rcases hq with ⟨o, hq⟩ | hq
    · exact .base (.frz hq)
    · rcases hq with (hq | ⟨o, hq⟩) | ⟨o, its, n, hk, hc, _⟩
      · cases hq
      · cases hq
      · exact .kList hk hc
  | emp => obtain ⟨a, o, rfl, hq⟩ := r; cases h; exact .fDict hq
  | ob n =>
    obtain ⟨a, rfl, hi⟩ := r
    have h : oTy S[n]? = some t := h
    cases e : S[n]? with
    | none => rw [e] at h; cases h
    | some x =>
      rw [e] at h
      cases x with
      | none => cases h
      | some o =>
        obtain ⟨b, e1, q⟩ := s.obj n _ e
        rw [hi] at e1; cases e1
        cases o with
        | lst l => cases h; obtain ⟨vs, hq, _⟩ := q; exact .base (.lst hq)
        | dk l => cases h; obtain ⟨vs, hq, _⟩ := q; exact .base (.dK hq)
        | dt l => cases h; obtain ⟨vs, hq, _⟩ := q; exact .base (.dT hq)
        | ins c fs => cases h
        | exn c fs => cases h
/-- isinstance(e, T) -/
theorem DE_isi {T : String} {TN : Str} {e : Expr} {fe : Frame → M D} {pos p p2 : Pos} (he : DE X W fe e) (hg : Gl X "isinstance") (hm : X.mg "isinstance" = none) (hT : Gl X TN) (hTm : X.mg TN = none) (hv : bootBuiltins TN = some (.type T)) (hn : TN ≠ "__name__" := by decide) (hdb : (TN == ("__debug__" : Str)) = false := by decide)
    (h1 : starEach [e, .Name TN p2] X.env = (false, eval e X.env) :: starEach [.Name TN p2] X.env := by rfl) (h2 : starEach [.Name TN p2] X.env = (false, eval (.Name TN p2) X.env) :: starEach [] X.env := by rfl) (hpl : (backTo pos (starEach [.Name TN p2] X.env)).any (·.1) = false := by rfl) :
    DE X W (unF (isiD T) fe) (.Call (.Name "isinstance" p) [e, .Name TN p2] [] pos) := by
  refine DE.of (pe_callB call_isi hg hm (by decide +kernel) (pa_cons he (pa_cons (pe_bltn (v := .ty T) hT hTm hv rfl hn hdb) pa_nil h2) h1) (by decide) (by decide) h1 hpl) fun σ H Q ι fr S s f h => ⟨ι, fr, S, s, f, h.bnd.imp (fun d S1 ι1 H1 m1 s1 h1 v r1 => ?_) fun _ _ _ _ _ _ z => z⟩
  unfold isiD at h1
  split at h1
  · rename_i b hb
    cases q : tyN S1 d with
    | none => rw [q] at hb; cases hb
    | some t =>
      rw [q] at hb
      exact ⟨v, .ty T, .type t, .type T, b, rfl, .ty T, ty_at s1 r1 q, kit_ty hb, .inl (h1.ok s1 _ rfl)⟩
  · exact h1.bad
end
end DL
namespace DL
open PySem PySem.Spec PyProof.Rows L2
open SeqAt (shaped)

/-! ### functions -/
def spD (K : PySem.W.Frag) (mg : Str → Option Value) (n : Nat) (F : List D → M D) : Sp := fun vs H Q E => ∃ ι ds S, SR K mg ι S H ∧ Rps K ι H ds vs ∧ ds.length = n ∧ Po K mg ι H (F ds S) (kE K Q) (fun x _ ι' H' => ∀ c d, XR K mg ι' H' x c d → E c d H')
/-- a def of the module by its name -/
structure FnD (P : Program) (w : World) (K : PySem.W.Frag) (mg : Str → Option Value) (base : Heap) (CX : CXT) (k : Nat) (x : Str) (n : Nat) (dds : List D) (F : List D → M D) : Prop where
  ex : ∃ (f : Addr) (fd : FuncData) (ps : List Str) (ds : List Value) (dvs : List V), mg x = some (.ref f) ∧ PySem.W.keepIn K (.ref f) = true ∧ FnOk P w K mg base CX k f fd ps (spD K mg n F) ∧ Binds K fd ps ds ∧ Vals dvs ds ∧ ∀ ι H, Rps K ι H dds dvs
def frame0 (N : Nat) (ds : List D) : Frame := ds.map some ++ List.replicate (N - ds.length) none
def outS : RS → R D
  | .ok (.rt d) _ S => .ok d S
  | .ok .nx _ S => .ok .non S
  | .err x _ S => .err x S
  | _ => .bad
def bodyF (N : Nat) (f : SM) : List D → M D := fun ds S => outS (f (frame0 N ds) S)
section
variable {K : PySem.W.Frag} {mg : Str → Option Value} {ι : List Addr} {H : Hp}
theorem FR_start {N : List Str} {ds : List D} {vs : List V} (r : Rps K ι H ds vs) : FR K ι (frame0 N.length ds) (L2.start N vs) H := by
  have e := r.length
  refine ⟨by simp [frame0, L2.start, e], fun i d h => ?_⟩
  unfold frame0 at h
  unfold L2.start
  by_cases hi : i < ds.length
  · rw [List.getElem?_append_left (by simpa using hi), List.getElem?_map] at h
    cases q : ds[i]? with
    | none => rw [q] at h; cases h
    | some x =>
      rw [q] at h
      cases h
      obtain ⟨v, hv, rv⟩ := r.get q
      refine ⟨v, ?_, rv⟩
      rw [List.getElem?_append_left (by rw [List.length_map]; omega), List.getElem?_map, hv]
      rfl
  · rw [List.getElem?_append_right (by simpa using hi), List.getElem?_replicate] at h
    split at h <;> cases h
theorem out_ends {W : WE} {N : List Str} {f : SM} {ds : List D} {S : Store} {Q : VK} {E : XK} (h : Po K mg ι H (bodyF N.length f ds S) (kE K Q) (fun x _ ι' H' => ∀ c d, XR K mg ι' H' x c d → E c d H')) (hW : ∀ c d σ H', E c d H' → W c d σ H') :
    PoS K mg W ι H (f (frame0 N.length ds) S) { nx := fun _ H' => Q .non H', rt := Q } := by
  unfold bodyF at h
  cases q : f (frame0 N.length ds) S with
  | ok fl fr S1 =>
    rw [q] at h
    cases fl with
    | nx => exact fun ι1 σ1 H1 m1 s1 f1 => h ι1 H1 m1 s1 _ rfl
    | rt d => exact fun ι1 σ1 H1 m1 s1 f1 => h ι1 H1 m1 s1
    | bk => exact h.elim
    | ct => exact h.elim
  | err x fr S1 => rw [q] at h; exact fun ι1 σ1 H1 m1 s1 f1 c d r => hW c d σ1 H1 (h ι1 H1 m1 s1 c d r)
  | bad => rw [q] at h; exact h
end
section
variable {X : Cx} {W : WE} {e : Expr} {es : List Expr} {pos p : Pos} {fs : List (Frame → M D)}
theorem DE_call {CX : CXT} {k : Nat} {x : Str} {n : Nat} {dds : List D} {F : List D → M D} (h : FnD X.prog X.w X.K X.mg X.base CX k x n dds F) (hr : Room k X.A) (hg : Gl X x) (hx : ∀ σ, PassesAt CX X σ (fun c d H' => W c d σ H')) (hn : fs.length + dds.length = n) (ha : DA X W (seqA fs) (e :: es))
    (hdb : (x == ("__debug__" : Str)) = false := by decide) (he : starEach (e :: es) X.env = (false, eval e X.env) :: starEach es X.env := by rfl) (hpl : (backTo pos (starEach es X.env)).any (·.1) = false := by rfl) :
    DE X W (calF (fun xs => F (xs ++ dds)) fs) (.Call (.Name x p) (e :: es) [] pos) := by
  obtain ⟨f, fd, ps, ds, dvs, h1, h2, h3, h4, h5, h6⟩ := h
  refine DE.of (pe_callSD h3 hr hg h1 h2 h4 h5 hx ha hdb he hpl) fun σ H Q ι fr S s f h => ⟨ι, fr, S, s, f, h.bndE.imp (fun xs S1 ι1 H1 m1 s1 q vs r => ?_) fun _ _ _ _ _ _ z => z⟩
  obtain ⟨hq, q⟩ := q
  have hl := seqA_len hq
  exact ⟨ι1, xs ++ dds, S1, s1, r.app (h6 _ _), by simp [hl]; omega, q.imp (fun d _ _ _ _ _ z v r => .inl (z v r)) fun _ _ _ _ _ _ z => z⟩
end
/-- the names whose cells were made here: a def (all), a comprehension's block (its own) -/
def fnS : Option Scope → Str → Bool
  | none => fun _ => true
  | some scope => fun x => scope.names.lookup x == some .cell
/-- what a body's derivation knows of its place -/
structure CxD (X : Cx) (N : List Str) (sc : Scope) (b : Option Scope) (k : Nat) : Prop where
  hN : X.N = N
  hsc : X.env.scope = sc
  hfn : X.fn = fnS b
  calm : X.calm = true
  room : Room k X.A
  nd : X.N.Nodup
  own : PassesOwn (model X.prog X.w) X.A X.env X.xe
theorem CxD.hu {X : Cx} {N : List Str} {sc : Scope} {b : Option Scope} {k : Nat} (c : CxD X N sc b k) : X.A.units + 64 < cLine := c.room.units
theorem CxD.hu5 {X : Cx} {N : List Str} {sc : Scope} {b : Option Scope} {k : Nat} (c : CxD X N sc b k) : X.A.units + 65 < cLine := by have := c.room.un; omega
/-- a local name -/
structure NL (N : List Str) (sc : Scope) (i : Nat) (x : Str) : Prop where
  ix : N[i]? = some x
  lc : sc.names.lookup x = some .local ∨ sc.names.lookup x = some .cell ∨ sc.names.lookup x = some .free
  d1 : (x == ("__debug__" : Str)) = false
  d2 : (x == ("__classdict__" : Str)) = false
/-- a global name -/
structure NG (sc : Scope) (x : Str) : Prop where
  gl : sc.names.lookup x = some .globalImplicit
  nn : x ≠ "__name__"
  d1 : (x == ("__debug__" : Str)) = false
section
variable {X : Cx} {W : WE} {N : List Str} {sc : Scope} {b : Option Scope} {k : Nat} {e : Expr} {es : List Expr} {pos p : Pos} {fe : Frame → M D} {fs : List (Frame → M D)} {i : Nat} {x : Str}
theorem CxD.gl (c : CxD X N sc b k) (n : NG sc x) : Gl X x := by unfold Gl Env.kindOf; rw [c.hsc]; exact n.gl
theorem CxD.var (c : CxD X N sc b k) (n : NL N sc i x) : DE X W (varF i) (.Name x pos) := DE_var (by rw [c.hN]; exact n.ix) (by rw [c.hsc]; exact n.lc) n.d1 n.d2
theorem CxD.loc (c : CxD X N sc b k) (hl : sc.names.lookup x = some .local ∨ (sc.names.lookup x = some .cell ∧ fnS b x = true)) : Loc X.env.scope x ∧ (X.fn x = true ∨ X.env.scope.names.lookup x = some .local) := by
  rw [c.hsc, c.hfn]
  rcases hl with h | ⟨h, h2⟩
  · exact ⟨.inl h, .inr h⟩
  · exact ⟨.inr h, .inl h2⟩
theorem CxD.set {p' : Pos} (c : CxD X N sc b k) (n : NL N sc i x) (hl : sc.names.lookup x = some .local ∨ (sc.names.lookup x = some .cell ∧ fnS b x = true)) (he : DE X W fe e) (hs : swapsWith e (some (.Name x p')) pos.line X.env = pure false := by rfl) : DS X W (asgF i fe) (.Assign [.Name x p'] e pos) :=
  DS_set c.nd (by rw [c.hN]; exact n.ix) (c.loc hl).1 he hs (c.loc hl).2
theorem CxD.tgt (c : CxD X N sc b k) (n : NL N sc i x) (hl : sc.names.lookup x = some .local ∨ (sc.names.lookup x = some .cell ∧ fnS b x = true)) : DG X [i] (tgName i) (.Name x pos) :=
  DG_name c.nd (by rw [c.hN]; exact n.ix) (c.loc hl).1 (c.loc hl).2
theorem CxD.blt {id : String} {g : List D → M D} (c : CxD X N sc b k) (n : NG sc x) (hm : X.mg x = none) (hv : bootBuiltins x = some (.builtin id)) (hc : CalD X W (.builtin id) g) (ha : DA X W (seqA fs) (e :: es))
    (he : starEach (e :: es) X.env = (false, eval e X.env) :: starEach es X.env := by rfl) (hpl : (backTo pos (starEach es X.env)).any (·.1) = false := by rfl) : DE X W (calF g fs) (.Call (.Name x p) (e :: es) [] pos) :=
  DE_blt hc (c.gl n) hm hv ha n.nn n.d1 he hpl
theorem CxD.typ {id : String} {g : List D → M D} (c : CxD X N sc b k) (n : NG sc x) (hm : X.mg x = none) (hv : bootBuiltins x = some (.type id)) (hc : CalD X W (.type id) g) (ha : DA X W (seqA fs) (e :: es))
    (he : starEach (e :: es) X.env = (false, eval e X.env) :: starEach es X.env := by rfl) (hpl : (backTo pos (starEach es X.env)).any (·.1) = false := by rfl) : DE X W (calF g fs) (.Call (.Name x p) (e :: es) [] pos) :=
  DE_typ hc (c.gl n) hm hv ha n.nn n.d1 he hpl
theorem CxD.call0 {n : Nat} {dds : List D} {F : List D → M D} {j : Nat} (c : CxD X N sc b k) (g : NG sc x) (h : FnD X.prog X.w X.K X.mg X.base CX0 j x n dds F) (hj : j ≤ k) (hn : fs.length + dds.length = n) (ha : DA X W (seqA fs) (e :: es))
    (he : starEach (e :: es) X.env = (false, eval e X.env) :: starEach es X.env := by rfl) (hpl : (backTo pos (starEach es X.env)).any (·.1) = false := by rfl) : DE X W (calF (fun xs => F (xs ++ dds)) fs) (.Call (.Name x p) (e :: es) [] pos) :=
  DE_call h (c.room.mono hj) (c.gl g) (fun _ _ _ _ _ _ _ h => h.elim) hn ha g.d1 he hpl
end
/-- a def in which nothing is raised -/
def defF (N : Nat) (f : SM) : List D → M D := fun ds => nox (bodyF N f ds)
theorem Po.nox {K : PySem.W.Frag} {mg : Str → Option Value} {ι : List Addr} {H : Hp} {α : Type} {m : M α} {S : Store} {k : α → Store → List Addr → Hp → Prop} {e e' : Exc → Store → List Addr → Hp → Prop} (h : Po K mg ι H (DL.nox m S) k e) : Po K mg ι H (m S) k e' := by
  unfold DL.nox at h
  cases q : m S with
  | ok d S1 => rw [q] at h; exact h
  | bad => rw [q] at h; exact h
  | err x S1 => rw [q] at h; exact h.elim
theorem fn_body {P : Program} {w : World} {K : PySem.W.Frag} {mg : Str → Option Value} {base : Heap} {x qual : Str} {st : Stmt} {f : Addr} {fd : FuncData} {N ps : List Str} {k : Nat} {B : SM} (F : Fun K x qual st f fd) (S : FnScope N ps (defScope st))
    (body : ∀ X : Cx, X.prog = P → X.w = w → X.K = K → X.mg = mg → X.base = base → CxD X N (defScope st) none k → (X.xe = fun _ _ => False) → DSs X W0 B (defBody st)) : FnOk P w K mg base CX0 (k + 1) f fd ps (spD K mg ps.length (defF N.length B)) := by
  refine F.ok S (fun vs H Q E h => ?_) fun cdv A outer s H vs Q E hr h => ?_
  · obtain ⟨ι, ds, S, _, r, hl, _⟩ := h
    rw [← r.length, hl]
  · obtain ⟨ι, ds, S', s', r, hl, h⟩ := h
    have c : CxD (cxOf CX0 P w K mg base N qual (defScope st) f cdv A outer s H E).nox N (defScope st) none k := ⟨rfl, rfl, rfl, rfl, hr, S.nd, PassesOwn.never⟩
    exact ⟨_, body _ rfl rfl rfl rfl rfl c rfl, ι, frame0 N.length ds, S', s', FR_start r, out_ends (W := W0) (E := fun _ _ _ => False) (Po.nox h) fun _ _ _ _ z => z⟩

/-! ### the law's own def: called where nothing is being shown (guards) -/
theorem def_run {P : Program} {w : World} {K : PySem.W.Frag} {mg : Str → Option Value} {base : Heap} {x qual : Str} {st : Stmt} {f : Addr} {fd : FuncData} {N ps : List Str} {k : Nat} {A : Around} {outer : List Env} {s : Shared} {H : Hp} {us : List Value} {vs : List V} {Q : VK}
    (F : Fun K x qual st f fd) (hS : FnScope N ps (defScope st)) (hr : Room (k + 1) A) (hl : vs.length = ps.length) (e0 : Env0 P w K mg base A outer s H) (hb : BindsTo s fd ⟨us, []⟩ (ps.zip us)) (r : Vals vs us)
    (body : ∀ cdv : Value, ∃ t, PSs (cxOf CX0 P w K mg base N qual (defScope st) f cdv A outer s H E0).nox (defBody st) t ∧ t { nx := fun _ H' => Q .non H', rt := Q } (L2.start N vs) H) :
    codeAny (model P w) A (.call (.ref f) ⟨us, []⟩) (CR CX0 outer P w H s Q E0) s := by
  obtain ⟨o, dd, v1, v2, v3, an, cdv, v4, sl, rfl, look, code⟩ := F.ex
  have inK : K.In s.heap := e0.mod.kin.keeps fun b u z => (e0.bs b u z).1
  have noLim : s.heap.NoLimit := e0.mod.nolimit.keeps fun b u z => (e0.bs b u z).1
  obtain ⟨t, ht, hq⟩ := body cdv
  have names : ∀ y ∈ ps.zip us, (defScope st).names.lookup y.1 = some .local ∨ ((defScope st).names.lookup y.1 = some .cell ∧ ((cellsFrom (s.heap.objs.size + 1) (defScope st).names []).lookup y.1).isSome = true) := by
    intro y hy
    refine (hS.par y.1 (List.of_mem_zip (show (y.1, y.2) ∈ ps.zip us from hy)).1).imp id fun q => ⟨q, ?_⟩
    exact PySem.W.cellsFrom_some _ _ _ (.inl q)
  apply codeAny_call_function hr.depth (inK _ _ look) rfl hS.co hS.gen rfl (PySem.W.codeRec_of inK code)
  apply hb
  apply wpAny_newFunctionEnv_cells hS.kind names
  intro env he s1 here
  subst he
  refine ⟨noLim.keeps here.toInCall.keep, codeAny_func ?_⟩
  have J := inv_start (CX := CX0) (E := E0) hS hr.hd e0 hl r here
  refine wpAny_mono (ht.nox.run [] s1 _ H _ J hq) (fun fl s' q => ?_) fun _ _ z => z
  cases fl with
  | next => obtain ⟨_, H', I, q⟩ := q; exact ⟨.non, H', I.os, I.bare, I.base, I.hok, rfl, q⟩
  | ret u => obtain ⟨v, _, H', I, rv, q⟩ := q; exact ⟨v, H', I.os, I.bare, I.base, I.hok, rv, q⟩
  | brk => obtain ⟨_, _, _, q⟩ := q; exact q.elim
  | cont => obtain ⟨_, _, _, q⟩ := q; exact q.elim
end DL
namespace DL
open PySem PySem.Spec PyProof.Rows L2
open SeqAt (shaped)
/-! ### the end: the law's call on its script -/
/-- what the law's run must show, from the abstract heap in which the script alone may be tracked -/
def LawRun (P : Program) (w : World) (K : PySem.W.Frag) (mg : Str → Option Value) (fa : Addr) : Prop :=
  ∀ (base : Heap) (s : Shared) (H : Hp) (a : Addr) (ns : List Int), K.In base → base.Ns mainGlobals mg → Env0 P w K mg base callerA [] s H → Ls K H a (ns.map V.int) → ns.length ≤ 63 →
    codeAny (model P w) callerA (.call (.ref fa) ⟨[.ref a], []⟩) (CR CX0 [] P w H s (fun v _ => v = .bl true) E0) s
theorem law_run {P : Program} {w : World} {K : PySem.W.Frag} {mg mb : Str → Option Value} {fa a : Addr} {s : Shared} {vs : List Value} {ns : List Int} (R : LawRun P w K mg fa)
    (inK : K.In s.heap) (glob : s.heap.Ns mainGlobals mg) (blt : s.heap.Ns builtinsNs mb) (std : ∀ x : Str, x ≠ "__name__" → mb x = bootBuiltins x) (lim : s.heap.NoLimit) (gens : s.gens = #[])
    (obj : s.heap.get? a = some { cls := .type "list", data := .seq vs.toArray }) (isI : IntsAre vs ns) (few : ns.length ≤ 63) :
    codeAny (model P w) callerA (.call (.ref fa) ⟨[.ref a], []⟩) (fun r s' => r = .ok (.ret (.bool true)) ∧ OldK s.heap s'.heap ∧ s'.os = s.os ∧ AllBare s'.gens) s := by
  have rv : Vals (ns.map V.int) vs := vals_ints isI
  have nl := isI.length
  have line : (ns.map V.int).length ≤ sizeLine := by rw [List.length_map, sizeLine_eq]; omega
  -- one way for both: H tracks nothing but the script
  have both : ∀ H : Hp, (∀ b u, H b = some u → b = a ∧ u = .frz { cls := .type "list", data := .seq vs.toArray } (.lst (ns.map V.int)) ∧ K.lookup a = none) → Ls K H a (ns.map V.int) →
      codeAny (model P w) callerA (.call (.ref fa) ⟨[.ref a], []⟩) (fun r s' => r = .ok (.ret (.bool true)) ∧ OldK s.heap s'.heap ∧ s'.os = s.os ∧ AllBare s'.gens) s := by
    intro H only script
    have held : HOk P w H s.heap := fun b u e => by
      obtain ⟨rfl, rfl, _⟩ := only b u e
      exact ⟨obj, line, vs, _, rv, obj⟩
    have free : ∀ {b : Addr} {o : Obj}, s.heap.get? b = some o → (∀ its n, o.data ≠ .seq its n) → H b = none := fun {b o} e nd => by
      cases q : H b with
      | none => rfl
      | some u =>
        obtain ⟨rfl, _, _⟩ := only b u q
        rw [obj] at e
        cases e
        exact absurd rfl (nd _ _)
    have names : ∀ {b : Addr} {m : Str → Option Value}, s.heap.Ns b m → (hidT s.heap H).Ns b m := fun {b m} z => by
      obtain ⟨o, es, ep, e, d, rest⟩ := z
      exact ⟨o, es, ep, hidT_get e (free e fun its n z => by rw [d] at z; cases z), d, rest⟩
    have kb : K.In (hidT s.heap H) := fun b o e => hidT_get (inK b o e) <| by
      cases q : H b with
      | none => rfl
      | some u =>
        obtain ⟨rfl, _, z⟩ := only b u q
        rw [z] at e
        cases e
    obtain ⟨ml, l1, l2⟩ := lim
    have m0 : Mod K mg (hidT s.heap H) := ⟨kb, names glob, ⟨mb, names blt, std⟩, ml, names l1, l2⟩
    have none_in : ∀ b : Addr, b ∉ frs [] := fun b z => by cases z
    have e0 : Env0 P w K mg (hidT s.heap H) callerA [] s H := ⟨rfl, m0, fun b o e => of_hidT e, Nat.le_of_eq (hidT_size _ _), trivial, fun b z => absurd z (none_in b), held, .of_eq gens⟩
    refine codeAny_mono (R _ s H a ns kb (names glob) e0 script few) fun r s' q => ?_
    match r, q with
    | .ok (.ret u), q =>
      obtain ⟨v, H', os, bare, un, held', ru, rfl⟩ := q
      obtain rfl : u = Value.bool true := ru
      refine ⟨rfl, OldK.of_keep fun b o e => ?_, os, bare⟩
      cases hb : H b with
      | none => exact un.keep b o e hb (none_in b) (by intro z; cases z)
      | some u =>
        obtain ⟨rfl, rfl, _⟩ := only b u hb
        have z := (held' _ _ (un.frzs _ _ _ hb)).1
        rw [obj] at e
        cases e
        exact z
    | .ok .next, q => exact q.elim
    | .ok .brk, q => exact q.elim
    | .ok .cont, q => exact q.elim
    | .error e, q => exact q.elim
  cases look : K.lookup a with
  | some o =>
    have e := inK a o look
    rw [obj] at e
    cases e
    refine both (fun _ => none) (fun b u z => by cases z) (.inr (.inr ⟨_, vs.toArray, _, look, rfl, rfl, rfl, ?_, by simpa using rv⟩))
    rw [List.size_toArray, sizeLine_eq]
    omega
  | none =>
    refine both (fun b => if b = a then some (.frz { cls := .type "list", data := .seq vs.toArray } (.lst (ns.map V.int))) else none) (fun b u z => ?_) (.inl ⟨_, if_pos rfl⟩)
    by_cases hb : b = a
    · have z' := (if_pos hb).symm.trans z
      exact ⟨hb, (Option.some.inj z').symm, look⟩
    · have z' := (if_neg hb).symm.trans z
      cases z'
theorem law_walk {l : PySem.W.OpenLaw} {q : Program} {loose : List Str} {XP : (Str → Option Value) → Heap → Prop} {YP : World → Heap → Prop} {d : DefRec} {K : Params → PySem.W.Frag} (hn : l.most = some 63) (hdf : d.params.defaults = [])
    (hY : ∀ (w : World) (h : Heap), YP w h → (K w.params).In h)
    (F : ∀ (w : World) (mg : Str → Option Value) (fa : Addr) (h : Heap), (K w.params).In h → h.Ns mainGlobals mg → mg d.name = some (.ref fa) → LawRun l.prog w (K w.params) mg fa) :
    PySem.W.WalkO q loose XP YP l.row.toRowW d [] (fun f vs => PySem.call f vs) :=
  Att.attach_call hn hdf fun w s₀ s₁ mg mb fa o pm cd doc a vs ns G Y ho hd hcd hmg hobj hints hlen hg =>
    law_run (F w mg fa _ (hY w _ Y) G.T.g hmg) (hY w _ Y) G.T.g G.T.b G.T.builtins G.T.nolimit hg hobj hints hlen
/-- the law's body: the script is data; the frame's guards are empty -/
theorem law_of {P : Program} {w : World} {K : PySem.W.Frag} {mg : Str → Option Value} {f : Addr} {fd : FuncData} {st : Stmt} {N : List Str} {p : Str} {k : Nat} {B : SM} (F : Fun K "law" "law" st f fd) (hS : FnScope N [p] (defScope st)) (hb : Binds K fd [p] []) (hr : Room (k + 1) callerA)
    (body : ∀ (base : Heap) (X : Cx), K.In base → base.Ns mainGlobals mg → X.prog = P → X.w = w → X.K = K → X.mg = mg → X.base = base → CxD X N (defScope st) none k → (X.xe = fun _ _ => False) → X.A.guards = some [] → DSs X W0 B (defBody st))
    (holds : ∀ ns : List Int, ns.length ≤ 63 → ∃ S, defF N.length B [.lst (ns.map .int)] [] = .ok (.bl true) S) : LawRun P w K mg f := by
  intro base s H a ns kb gb e0 script few
  obtain ⟨S, hS'⟩ := holds ns few
  refine def_run (k := k) F hS hr (vs := [.ref a]) rfl e0 ?_ (.cons rfl .nil) fun cdv => ?_
  · have := hb s [.ref a] (e0.mod.kin.keeps fun b u z => (e0.bs b u z).1) rfl
    simpa using this
  · have c : CxD (cxOf CX0 P w K mg base N "law" (defScope st) f cdv callerA [] s H E0).nox N (defScope st) none k := ⟨rfl, rfl, rfl, rfl, hr.deeper _, hS.nd, PassesOwn.never⟩
    have s0 : SR K mg [] [] H := ⟨List.nodup_nil, rfl, (by intro a z; cases z), fun n o e => by simp at e⟩
    have r0 : Rps K [] H [D.lst (ns.map .int)] [V.ref a] := ⟨_, _, rfl, ⟨a, _, rfl, script, Rps.of_ints ns⟩, rfl⟩
    refine ⟨_, body base _ kb gb rfl rfl rfl rfl rfl c rfl rfl, [], frame0 N.length [.lst (ns.map .int)], [], s0, FR_start r0, out_ends (N := N) (ds := [.lst (ns.map .int)]) (Q := fun v _ => v = .bl true) (W := W0) (E := fun _ _ _ => False) (Po.nox (e := fun _ _ _ _ => False) ?_) fun _ _ _ _ z => z⟩
    show Po K mg [] H (defF N.length B [.lst (ns.map .int)] []) _ _
    rw [hS']
    exact fun ι' H' m' s' v r => r
end DL
namespace DL
open PySem PySem.Spec PyProof.Rows L2
open SeqAt (shaped)
/-! ### repr -/
def reprOk (p : PyData) : Prop := p.showable = true ∧ p.hasDict = false ∧ p.depth ≤ 60 ∧ p.shown.length ≤ sizeLine
instance (p : PyData) : Decidable (reprOk p) := by unfold reprOk; infer_instance
def reprD (xs : List D) : M D := fun S => match xs with
  | [d] => (match pyS S d with
    | some p => if reprOk p then .ok (.str p.shown) S else .bad
    | none => .bad)
  | _ => .bad
section
variable {X : Cx} {W : WE}
theorem CalD.base {f : Value} {g : List D → M D}
    (h : ∀ pins s σ H xs us (Q : VK) ι S ds e, Inv X pins σ H s → Vals xs us → SR X.K X.mg ι S H → Rps X.K ι H ds xs → Po X.K X.mg ι H (g ds S) (kE X.K Q) e → wpAny (model X.prog X.w) X.A (call f us) (EP X pins σ Q) X.xe s) :
    CalD X W f g := by
  refine ⟨fun xs H Q => ∃ ι S ds e, SR X.K X.mg ι S H ∧ Rps X.K ι H ds xs ∧ Po X.K X.mg ι H (g ds S) (kE X.K Q) e, ?_, ?_⟩
  · rintro pins s σ H xs us Q I rx ⟨ι, S, ds, e, h1, h2, h3⟩
    exact h pins s σ H xs us Q ι S ds e I rx h1 h2 h3
  · intro ι S H σ xs vs Q h1 h2 h3
    exact ⟨ι, S, xs, _, h1, h2, h3.imp (fun d _ _ _ _ _ z w r => .inl (z w r)) fun _ _ _ _ _ _ z => z⟩
theorem C_repr (hg : X.A.guards = some []) (hu : X.A.units + 64 < cLine) : CalD X W (.builtin "repr") reprD := by
  refine CalD.base fun pins s σ H xs us Q ι S ds e I rx hS r h => ?_
  unfold reprD at h
  split at h
  · rename_i d
    obtain ⟨v, w, rfl, r1, r2⟩ := r
    cases r2
    cases rx with
    | cons ru rr =>
      cases rr
      rename_i u us'
      split at h
      · rename_i p hp
        split at h
        · rename_i ok
          obtain ⟨h1, h2, h3, h4⟩ := ok
          obtain ⟨as, rd⟩ := pyS_reads I hS r1 ru hp
          have q : Q (.str p.shown) H := h.ok hS _ rfl
          have fin : ∀ t, EP X pins σ Q (.str p.shown t) { s with toks := s.toks + 1 } := fun t => ⟨.str p.shown, H, I.tok _, ⟨_, rfl⟩, q⟩
          have fin2 : ∀ (h' : Heap) u tk, (∀ b o, s.heap.get? b = some o → h'.get? b = some o) → EP X pins σ Q (.str p.shown u) { s with heap := h', toks := tk } := fun h' u tk k => ⟨.str p.shown, H, I.kept k, ⟨_, rfl⟩, q⟩
          cases rd with
          | none => exact PySem.P.repr_of_none (fin _)
          | bool b => exact PySem.P.repr_of_bool (fin _)
          | int i t => exact PySem.P.repr_of_int (by simpa [PyData.showable] using h1) (fin _)
          | str x t => exact PySem.P.repr_of_str (fin _) h4
          | list g1 g2 g3 g4 => exact repr_of_reads' (.list g1 g2 g3 g4) h1 (PyData.noDict_hsm h2) hg (by omega) (fun _ _ z => z) fin2 h4
          | tuple g1 g2 g3 g4 => exact repr_of_reads' (.tuple g1 g2 g3 g4) h1 (PyData.noDict_hsm h2) hg (by omega) (fun _ _ z => z) fin2 h4
          | dict g1 g2 g3 g4 g5 => simp [PyData.hasDict] at h2
        · exact h.bad
      · exact h.bad
  · exact h.bad
end
end DL
namespace DL
open PySem PySem.Spec PyProof.Rows L2
open SeqAt (shaped)
/-! ### methods of built-in types -/
def tyM (K : PySem.W.Frag) (T : String) (x : V) (H : Hp) : Prop := match x with
  | .str _ => T = "str"
  | .ref p => (T = "list" ∧ ∃ xs, SqL K H p xs) ∨ (T = "dict" ∧ ((∃ kvs, H p = some (.dK kvs)) ∨ ∃ kvs, H p = some (.dT kvs)))
  | _ => False
def tyR (S : Store) (T : String) : D → Bool
  | .str _ => T == "str"
  | .lst _ => T == "list"
  | .ob n => (T == "list" || T == "dict") && oTy S[n]? == some T
  | _ => false
def tyCk (T : String) (d : D) : M Unit := fun S => if tyR S T d = true then .ok () S else .bad
def metF (T : String) (g : D → List D → M D) (f : Frame → M D) (fs : List (Frame → M D)) : Frame → M D := fun fr => bnd (f fr) fun o => bnd (tyCk T o) fun _ => bnd (seqA fs fr) fun xs => g o xs
def MtD (X : Cx) (W : WE) (id : String) (g : D → List D → M D) : Prop :=
  ∃ r, MtR X id r ∧ ∀ ι S H σ x xs v vs Q, SR X.K X.mg ι S H → Rp X.K ι H x v → Rps X.K ι H xs vs → Po X.K X.mg ι H (g x xs S) (kE X.K Q) (kX X.K X.mg W σ) → r v vs H (Fz Q)
section
variable {X : Cx} {W : WE} {a b c e o : Expr} {pos apos cpos : Pos} {fa fb fc : Frame → M D} {ι : List Addr} {H : Hp} {σ : L2.St} {s : Shared} {pins : List (Addr × Obj)} {es : List Expr} {fs : List (Frame → M D)} {T id : String} {name : Str}
theorem tyM_ok : TyOk X T (tyM X.K T) := by
  intro pins σ H s x v I r ty
  refine tyV_is I r ?_
  cases x with
  | str z => exact ty
  | ref p =>
    rcases ty with ⟨h, h2⟩ | ⟨h, h2⟩
    · exact .inl ⟨h, h2⟩
    · exact .inr (.inr (.inl ⟨h, h2⟩))
  | _ => exact ty.elim
theorem tyR_at {ι : List Addr} {S : Store} {d : D} {v : V} (s : SR X.K X.mg ι S H) (r : Rp X.K ι H d v) (h : tyR S T d = true) : tyM X.K T v H := by
  cases d with
  | str z => cases r; exact eq_of_beq h
  | lst l => obtain ⟨p, vs, rfl, hq, _⟩ := r; exact .inl ⟨eq_of_beq h, _, hq.sq⟩
  | ob n =>
    obtain ⟨p, rfl, hi⟩ := r
    have h' : ((T == "list" || T == "dict") && oTy S[n]? == some T) = true := h
    obtain ⟨_, h2⟩ := Bool.and_eq_true_iff.mp h'
    have h2 := eq_of_beq h2
    cases e : S[n]? with
    | none => rw [e] at h2; cases h2
    | some x =>
      rw [e] at h2
      cases x with
      | none => cases h2
      | some o =>
        obtain ⟨b, e1, q⟩ := s.obj n _ e
        rw [hi] at e1; cases e1
        cases o with
        | lst l => cases h2; obtain ⟨vs, hq, _⟩ := q; exact .inl ⟨rfl, _, .of hq⟩
        | dk l => cases h2; obtain ⟨vs, hq, _⟩ := q; exact .inr ⟨rfl, .inl ⟨_, hq⟩⟩
        | dt l => cases h2; obtain ⟨vs, hq, _⟩ := q; exact .inr ⟨rfl, .inr ⟨_, hq⟩⟩
        | ins c fs => cases h2
        | exn c fs => cases h2
  | _ => cases h
theorem ck_at {α : Type} {S : Store} {d : D} {v : V} {g : M α} {k : α → Store → List Addr → Hp → Prop} {x : Exc → Store → List Addr → Hp → Prop} (s : SR X.K X.mg ι S H) (r : Rp X.K ι H d v) (h : Po X.K X.mg ι H (bnd (tyCk T d) (fun _ => g) S) k x) : tyM X.K T v H ∧ Po X.K X.mg ι H (g S) k x := by
  unfold bnd tyCk at h
  by_cases q : tyR S T d = true
  · rw [if_pos q] at h; exact ⟨tyR_at s r q, h⟩
  · rw [if_neg q] at h; exact h.bad
theorem DE_met {g : D → List D → M D} (pa : PlainAttrs T) (slot : Slot T name id) (hty : typeOf (.builtin id) = pure (.type "method_descriptor")) (hm : MtD X W id g) (ho : DE X W fa o) (ha : DA X W (seqA fs) (e :: es))
    (hbase : attributeBase o name X.env (eval o X.env) = eval o X.env := by rfl)
    (hfew : ((backTo cpos (starEach (e :: es) X.env)).all (fun x => !x.1) && (backToKw cpos (keywordEach [] X.env)).all (fun x => x.1.isSome)
      && decide ((e :: es).length + ([] : List Keyword).length + (if ([] : List Keyword).isEmpty then 0 else 1) < 30)) = true := by rfl)
    (hline : (apos.endLine == cpos.line) = true := by rfl) (hs : starEach (e :: es) X.env = (false, eval e X.env) :: starEach es X.env := by rfl) (hplain : (backTo cpos (starEach es X.env)).any (·.1) = false := by rfl) :
    DE X W (metF T g fa fs) (.Call (.Attribute o name apos) (e :: es) [] cpos) := by
  obtain ⟨r, h1, h2⟩ := hm
  refine DE.of (pe_mG tyM_ok pa slot hty h1 ho ha hbase hfew hline hs hplain) fun σ H Q ι fr S s f h => ⟨ι, fr, S, s, f, h.bnd.imp (fun d S1 ι1 H1 m1 s1 q v r1 => ?_) fun _ _ _ _ _ _ z => z⟩
  obtain ⟨t1, q⟩ := ck_at s1 r1 q
  exact ⟨t1, ι1, fr, S1, s1, m1.fr f, q.bnd.imp (fun xs S2 ι2 H2 m2 s2 q2 vs r2 => h2 ι2 S2 H2 σ d xs v vs Q s2 (m2.rp r1) r2 q2) fun _ _ _ _ _ _ z => z⟩
/-- l.append(x) of a list of the store -/
def appD (d : D) (xs : List D) : M D := fun S => match d, xs with
  | .ob n, [x] => match oLst S[n]? with
    | some l => if l.length < sizeLine then .ok .non (S.set n (some (.lst (l ++ [x])))) else .bad
    | none => .bad
  | _, _ => .bad
theorem M_app : MtD X W "list.append" appD := by
  refine ⟨_, mt_append, fun ι S H σ d xs v vs Q s r rs h => ?_⟩
  unfold appD at h
  split at h
  · rename_i n x
    obtain ⟨p, rfl, hi⟩ := r
    obtain ⟨w, t, rfl, rw', rt⟩ := rs
    cases rt
    split at h
    · rename_i l hl
      split at h
      · rename_i hz
        have hS := oLst_of hl
        obtain ⟨b, e1, us, hb, ru⟩ := s.obj n _ hS
        rw [hi] at e1; cases e1
        have m := Mn.write (u := .lst (us ++ [w])) s hi hS
        refine ⟨p, us, w, rfl, rfl, hb, by rw [← ru.length]; exact hz, .inl (h ι _ m (s.write hi hS (by intro _ z; cases z) fun o ho => ?_) _ rfl)⟩
        cases ho
        exact ⟨_, upd_same, (m.rps ru).app ⟨w, [], rfl, m.rp rw', rfl⟩⟩
      · exact h.bad
    · exact h.bad
  · exact h.bad
/-- l.pop(i) -/
def popD (d : D) (xs : List D) : M D := fun S => match d, xs with
  | .ob n, [.int i] => match oLst S[n]? with
    | some l => if -(2 ^ 63) ≤ i ∧ i < 2 ^ 63 then (match seqIndex? i l.length with
      | some k => (match l[k]? with
        | some x => .ok x (S.set n (some (.lst (l.eraseIdx k))))
        | none => .bad)
      | none => .bad) else .bad
    | none => .bad
  | _, _ => .bad
/-- l.count(x) -/
def cntD (d : D) (xs : List D) : M D := fun S => match xs with
  | [y] => match pyS S d, pyS S y with
    | some (.list ds), some p => if shaped p = true ∧ shaped (.list ds) = true then .ok (.int (ds.countP fun z => PyData.eqv z p : Nat)) S else .bad
    | _, _ => .bad
  | _ => .bad
/-- s.index(t) where it is found -/
def sixD (d : D) (xs : List D) : M D := fun S => match d, xs with
  | .str a, [.str b] => match Builtin.Str.occurrences a b 0 a.length 1 with
    | i :: _ => .ok (.int (i : Nat)) S
    | [] => .bad
  | _, _ => .bad
/-! ### o[i] = e -/
def setD (o i x : D) : M Unit := fun S => match o, i with
  | .ob n, .int k => match oLst S[n]? with
    | some l => (match ixN l.length k with
      | some j => .ok () (S.set n (some (.lst (l.set j x))))
      | none => .bad)
    | none => .bad
  | _, _ => .bad
def tgSub (fo fi : Frame → M D) : D → Frame → M Frame := fun d fr => bnd (nox (fo fr)) fun o => bnd (nox (fi fr)) fun i => bnd (setD o i d) fun _ => ret fr
theorem Po.noxk {α : Type} {m : M α} {S : Store} {k : α → Store → List Addr → Hp → Prop} {e e' : Exc → Store → List Addr → Hp → Prop} (h : Po X.K X.mg ι H (DL.nox m S) k e) : Po X.K X.mg ι H (m S) k e' := Po.nox h
theorem DG_sub (ho : DE X W fa a) (hi : DE X W fb b)
    (has : ∀ v, assign (.Subscript a b pos) X.env v = (do
      let ov ← holding [v] (eval a X.env)
      let iv ← holding [v, ov] (eval b X.env)
      standAt pos
      holding [v, ov, iv] (setItem ov iv v)
      release [v, ov, iv] []) := by intro _; rfl) : DG X [] (tgSub fa fb) (.Subscript a b pos) := by
  refine ⟨fun pins s σ H v u Q I r h => ?_⟩
  obtain ⟨ι, fr, S, d, hS, hF, hr, h⟩ := h
  refine (pg_sub ho hi set_list has).run pins s σ H v u Q I r ?_
  refine ⟨ι, fr, S, hS, hF, ?_⟩
  refine Po.noxk (e := fun _ _ _ _ => False) ?_
  refine Po.imp (Po.bnd h) (fun o S1 ι1 H1 m1 s1 h1 ov ro => ?_) (fun _ _ _ _ _ _ z => z)
  refine ⟨ι1, fr, S1, s1, m1.fr hF, ?_⟩
  refine Po.noxk (e := fun _ _ _ _ => False) ?_
  refine Po.imp (Po.bnd h1) (fun i S2 ι2 H2 m2 s2 h2 iv ri => ?_) (fun _ _ _ _ _ _ z => z)
  have ro2 := m2.rp ro
  have h2' := h2.bndE
  unfold setD at h2'
  split at h2'
  · rename_i n k
    cases ri
    obtain ⟨p, rfl, hix⟩ := ro2
    split at h2'
    · rename_i l hl
      split at h2'
      · rename_i j hj
        have hSn := oLst_of hl
        obtain ⟨c, e1, us, hb, ru⟩ := s2.obj n _ hSn
        rw [hix] at e1; cases e1
        have rv2 := (m1.trans m2).rp hr
        have m := Mn.write (u := .lst (us.set j v)) s2 hix hSn
        refine ⟨p, us, k, j, rfl, rfl, hb, by rw [← ru.length]; exact hj, ?_⟩
        have s3 : SR X.K X.mg ι2 (S2.set n (some (.lst (l.set j d)))) (upd H2 p (.lst (us.set j v))) := s2.write hix hSn (by intro _ z; cases z) fun o ho => by
          cases ho
          exact ⟨_, upd_same, (m.rps ru).set (m.rp rv2) j⟩
        exact (h2' _ _ m s3).2.ok s3 σ (((m1.trans m2).trans m).fr hF) Tch.refl
      · exact h2'.bad
    · exact h2'.bad
  · exact h2'.bad

/-! ### a, b = x, y -/
def setAll (fr : Frame) : List Nat → List D → Frame
  | i :: is, d :: ds => setAll (fr.set i (some d)) is ds
  | _, _ => fr
def parF (is : List Nat) (fs : List (Frame → M D)) : SM := fun fr S => exS (seqA fs fr S) fr fun l S' => .ok .nx (setAll fr is l) S'
theorem DS_par {i j : Nat} {x y : Str} {px py pt : Pos} {kt k2 pt2} (hc : X.calm = true) (hN : X.N.Nodup) (hi : X.N[i]? = some x) (hj : X.N[j]? = some y) (hij : i ≠ j)
    (hx : X.env.scope.names.lookup x = some .local) (hy : X.env.scope.names.lookup y = some .local) (ha : DA X W (seqA [fa, fb]) [a, b])
    (hw : swappedStores [.Tuple [.Name x px, .Name y py] kt pt] (.Tuple [a, b] k2 pt2) X.env = pure (some [x, y]))
    (hs : swapsWithSole [.Tuple [.Name x px, .Name y py] kt pt] (.Tuple [a, b] k2 pt2) pos.line X.env = pure false := by rfl) :
    DS X W (parF [i, j] [fa, fb]) (.Assign [.Tuple [.Name x px, .Name y py] kt pt] (.Tuple [a, b] k2 pt2) pos) := by
  refine DS.of (ps_par hc hN hi hj hij hx hy ha hw hs) fun D σ H ι fr S s f h => ⟨ι, fr, S, s, f, (h.exE f).imp (fun l S1 ι1 H1 m1 s1 q1 vs r => ?_) fun _ _ _ _ _ _ z => z⟩
  obtain ⟨hl, q⟩ := q1
  have len := seqA_len hl
  match l, len, r with
  | [d1, d2], _, r =>
    obtain ⟨v1, t1, rfl, r1, v2, t2, rfl, r2, rt⟩ := r
    cases rt
    exact ⟨v1, v2, rfl, q.ok s1 (((m1.fr f).set r1).set r2)⟩
/-! ### x op= e -/
def augF (i : Nat) (g : D → D → M D) (f : Frame → M D) : SM := fun fr S => match fr[i]? with
  | some (some x) => exS (f fr S) fr fun y S1 => exS (g x y S1) fr fun z S2 => .ok .nx (fr.set i (some z)) S2
  | _ => .bad
def iaddD (x y : D) : M D := fun S => match x, y with
  | .int i, .int j => .ok (.int (i + j)) S
  | _, _ => .bad
def isubD (x y : D) : M D := fun S => match x, y with
  | .int i, .int j => .ok (.int (i - j)) S
  | _, _ => .bad
def IpD (X : Cx) (W : WE) (op : Operator) (g : D → D → M D) : Prop :=
  ∃ t, PIp X op t ∧ ∀ ι S H σ x y v u Q, SR X.K X.mg ι S H → Rp X.K ι H x v → Rp X.K ι H y u → Po X.K X.mg ι H (g x y S) (kE X.K Q) (kX X.K X.mg W σ) → t v u H Q
/-! ### values of the module -/
theorem DE_glob {x : Str} {u : Value} {v : V} {d : D} (hg : Gl X x) (hm : X.mg x = some u) (r : RelV v u) (rd : ∀ ι H, Rp X.K ι H d v) (hd : (x == ("__debug__" : Str)) = false := by decide) : DE X W (cstF d) (.Name x pos) :=
  DE_cst (pe_glob hg hm r hd) rd
end
end DL
namespace DL
open PySem PySem.Spec PyProof.Rows L2
open SeqAt (shaped)
section
variable {X : Cx} {W : WE} {N : List Str} {sc : Scope} {b : Option Scope} {k : Nat} {e e1 e2 e3 o : Expr} {es : List Expr} {pos p apos cpos : Pos} {fe f1 f2 f3 : Frame → M D} {fs : List (Frame → M D)} {i j l : Nat} {x y z : Str}
abbrev LcP (sc : Scope) (b : Option Scope) (x : Str) : Prop := sc.names.lookup x = some .local ∨ (sc.names.lookup x = some .cell ∧ fnS b x = true)
theorem CxD.for_ {tg iter : Expr} {body : List Stmt} {fi : Frame → M Src} {n : List Nat} {g : D → Frame → M Frame} {f : SM} (c : CxD X N sc b k) (hi : DI X W fi tg iter) (hg : DG X n g tg) (hb : DSs X W f body)
    (hs : ∀ x, foldedSetIterable iter X.env x = pure x := by intro _; rfl) : DS X W (forF fi g f) (.For tg iter body [] pos) := DS_for c.own c.calm hi hg hb hs
theorem CxD.tup {ts : List Expr} {q : Nat} {n : List Nat} {gs : List (D → Frame → M Frame)} (c : CxD X N sc b k) (h : DGs X n gs ts) (hl : ts.length = gs.length := by rfl)
    (hn : (assignEach ts X.env).length = ts.length := by rfl) (hst : (assignEach ts X.env).findIdx? (·.1) = none := by rfl) : DG X n (tgTup gs) (.Tuple ts q pos) := DG_tup c.calm h hl hn hst
theorem CxD.par {px py pt : Pos} {kt k2 pt2} (c : CxD X N sc b k) (hx : NL N sc i x) (hy : NL N sc j y) (lx : sc.names.lookup x = some .local) (ly : sc.names.lookup y = some .local) (ha : DA X W (seqA [f1, f2]) [e1, e2])
    (hw : ∀ env : Env, env.scope = sc → swappedStores [.Tuple [.Name x px, .Name y py] kt pt] (.Tuple [e1, e2] k2 pt2) env = pure (some [x, y])) (hij : i ≠ j := by decide)
    (hs : swapsWithSole [.Tuple [.Name x px, .Name y py] kt pt] (.Tuple [e1, e2] k2 pt2) pos.line X.env = pure false := by rfl) :
    DS X W (parF [i, j] [f1, f2]) (.Assign [.Tuple [.Name x px, .Name y py] kt pt] (.Tuple [e1, e2] k2 pt2) pos) :=
  DS_par c.calm c.nd (by rw [c.hN]; exact hx.ix) (by rw [c.hN]; exact hy.ix) hij (by rw [c.hsc]; exact lx) (by rw [c.hsc]; exact ly) ha (hw _ c.hsc) hs
/-- a, b = a value that is no written pair of names' values -/
theorem CxD.asgT {tg : Expr} {n : List Nat} {g : D → Frame → M Frame} (c : CxD X N sc b k) (he : DE X W fe e) (hg : DG X n g tg) (hw : ∀ env : Env, env.scope = sc → swappedStores [tg] e env = pure none) (hs : swapsWithSole [tg] e pos.line X.env = pure false := by rfl)
    (h1 : (assignEach [tg] X.env).map (·.2) = [assign tg X.env] := by rfl) : DS X W (asgG g fe) (.Assign [tg] e pos) := DS_asg he hg hs (hw _ c.hsc) h1
theorem CxD.rng1 {tg : Expr} (c : CxD X N sc b k) (n : NG sc "range") (hm : X.mg "range" = none) (ha : DA X W (seqA fs) [e]) (hs : starEach [e] X.env = [(false, eval e X.env)] := by rfl) : DI X W (rngF rng1 fs) tg (.Call (.Name "range" p) [e] [] pos) :=
  DI_range1 (c.gl n) hm ha hs
theorem CxD.blk {scope : Scope} (c : CxD X N sc b k) {s : Shared} {H : Hp} {C : Addr} {cl : List (Str × Addr)} {fp : List Addr} : CxD (X.blk s H scope (compEnvC scope cl C X.env) fp) N (relS scope sc) (some scope) k :=
  ⟨c.hN, by rw [← c.hsc]; rfl, rfl, c.calm, c.room, c.nd, PassesOwn.never⟩
variable {tg iter elt : Expr} {ifs : List Expr} {scope : Scope} {ts : List Nat} {fi : Frame → M Src} {g : D → Frame → M Frame} {ft : Frame → M Bool} {own : List (Str × Nat)}
theorem CxD.cmp (c : CxD X N sc b k) (own : List (Str × Nat)) (hi : DI X W fi tg iter) (ok : BlkOk N sc scope own)
    (B : ∀ (s : Shared) (H : Hp) (C : Addr) (cl : List (Str × Addr)) (fp : List Addr), CxD (X.blk s H scope (compEnvC scope cl C X.env) fp) N (relS scope sc) (some scope) k →
      DG (X.blk s H scope (compEnvC scope cl C X.env) fp) ts g tg ∧ DTs (X.blk s H scope (compEnvC scope cl C X.env) fp) W0 ft ifs ∧ DE (X.blk s H scope (compEnvC scope cl C X.env) fp) W0 fe elt)
    (hts : ∀ i ∈ ts, i ∈ own.map (·.2)) (hs : ∀ x, foldedSetIterable iter X.env x = pure x := by intro _; rfl) : DE X W (cmpD (own.map (·.2)) fi g ft fe) (.ListComp elt [⟨tg, iter, ifs, 0⟩] scope pos) :=
  DE_cmp_ c.calm c.nd hi (by rw [c.hN, c.hsc]; exact ok) hts ⟨fun s H C cl fp => (B s H C cl fp c.blk).1, fun s H C cl fp => (B s H C cl fp c.blk).2.1, fun s H C cl fp => (B s H C cl fp c.blk).2.2⟩ hs
theorem CxD.cmpo (c : CxD X N sc b k) (own : List (Str × Nat)) (hi : DI X W fi tg iter) (ok : BlkOk N sc scope own)
    (B : ∀ (s : Shared) (H : Hp) (C : Addr) (cl : List (Str × Addr)) (fp : List Addr), CxD (X.blk s H scope (compEnvC scope cl C X.env) fp) N (relS scope sc) (some scope) k →
      DG (X.blk s H scope (compEnvC scope cl C X.env) fp) ts g tg ∧ DTs (X.blk s H scope (compEnvC scope cl C X.env) fp) W0 ft ifs ∧ DE (X.blk s H scope (compEnvC scope cl C X.env) fp) W0 fe elt)
    (hts : ∀ i ∈ ts, i ∈ own.map (·.2)) (hs : ∀ x, foldedSetIterable iter X.env x = pure x := by intro _; rfl) : DE X W (cmpO (own.map (·.2)) fi g ft fe) (.ListComp elt [⟨tg, iter, ifs, 0⟩] scope pos) :=
  DE_cmpO c.calm c.nd hi (by rw [c.hN, c.hsc]; exact ok) hts ⟨fun s H C cl fp => (B s H C cl fp c.blk).1, fun s H C cl fp => (B s H C cl fp c.blk).2.1, fun s H C cl fp => (B s H C cl fp c.blk).2.2⟩ hs
theorem CxD.gstr {s : Str} (c : CxD X N sc b k) (n : NG sc x) (hm : ∃ t, X.mg x = some (.str s t)) : DE X W (cstF (.str s)) (.Name x pos) := by
  obtain ⟨t, hm⟩ := hm
  exact DE_glob (c.gl n) hm (v := .str s) ⟨t, rfl⟩ (fun _ _ => rfl) n.d1
theorem CxD.isi {T : String} {TN : Str} {p2 : Pos} (c : CxD X N sc b k) (n : NG sc "isinstance") (n2 : NG sc TN) (hm : X.mg "isinstance" = none) (hTm : X.mg TN = none) (he : DE X W fe e) (hv : bootBuiltins TN = some (.type T))
    (h1 : starEach [e, .Name TN p2] X.env = (false, eval e X.env) :: starEach [.Name TN p2] X.env := by rfl) (h2 : starEach [.Name TN p2] X.env = (false, eval (.Name TN p2) X.env) :: starEach [] X.env := by rfl) (hpl : (backTo pos (starEach [.Name TN p2] X.env)).any (·.1) = false := by rfl) :
    DE X W (unF (isiD T) fe) (.Call (.Name "isinstance" p) [e, .Name TN p2] [] pos) := DE_isi he (c.gl n) hm (c.gl n2) hTm hv n2.nn n2.d1 h1 h2 hpl
end
theorem bt_abs : bootBuiltins "abs" = some (.builtin "abs") := by decide +kernel
theorem bt_len : bootBuiltins "len" = some (.builtin "len") := by decide +kernel
theorem bt_max : bootBuiltins "max" = some (.builtin "max") := by decide +kernel
theorem bt_repr : bootBuiltins "repr" = some (.builtin "repr") := by decide +kernel
theorem bt_sorted : bootBuiltins "sorted" = some (.builtin "sorted") := by decide +kernel
theorem bt_int : bootBuiltins "int" = some (.type "int") := by decide +kernel
theorem bt_str : bootBuiltins "str" = some (.type "str") := by decide +kernel
theorem bt_tuple : bootBuiltins "tuple" = some (.type "tuple") := by decide +kernel
section
variable {X : Cx} {W : WE} {N : List Str} {sc : Scope} {b : Option Scope} {k : Nat} {e o : Expr} {es : List Expr} {apos cpos : Pos} {fa : Frame → M D} {fs : List (Frame → M D)}
/-- what every argument list of a method needs -/
abbrev Few (X : Cx) (e : Expr) (es : List Expr) (cpos : Pos) : Prop := ((backTo cpos (starEach (e :: es) X.env)).all (fun x => !x.1) && (backToKw cpos (keywordEach [] X.env)).all (fun x => x.1.isSome)
      && decide ((e :: es).length + ([] : List Keyword).length + (if ([] : List Keyword).isEmpty then 0 else 1) < 30)) = true
theorem DE_append (ho : DE X W fa o) (ha : DA X W (seqA fs) (e :: es)) (hbase : attributeBase o "append" X.env (eval o X.env) = eval o X.env := by rfl) (hfew : Few X e es cpos := by rfl) (hline : (apos.endLine == cpos.line) = true := by rfl)
    (hs : starEach (e :: es) X.env = (false, eval e X.env) :: starEach es X.env := by rfl) (hplain : (backTo cpos (starEach es X.env)).any (·.1) = false := by rfl) : DE X W (metF "list" appD fa fs) (.Call (.Attribute o "append" apos) (e :: es) [] cpos) :=
  DE_met PySem.F.plainAttrs_list PySem.F.slot_list_append PySem.F.type_list_append M_app ho ha hbase hfew hline hs hplain
end
end DL
namespace DL
open PySem PySem.Spec PyProof.Rows L2
open SeqAt (shaped)
section
variable {X : Cx} {W : WE} {a b c e tg iter elt : Expr} {pos : Pos} {fa fb fc : Frame → M D} {ι : List Addr} {H : Hp} {σ : L2.St} {s : Shared} {pins : List (Addr × Obj)} {f : SM}
/-! ### a statement whose new list is locked behind it -/
def FzS (k : L2.St → Hp → Prop) : L2.St → Hp → Prop := fun σ H => k σ H ∨ ∃ a u, H a = some u ∧ Mut (some u) ∧ ∀ o, k σ (upd H a (.frz o u))
variable {ifs : List Expr} {scope : Scope} {own : List (Str × Nat)} {ts : List Nat} {g : D → Frame → M Frame} {ft : Frame → M Bool} {fe : Frame → M D} {fi : Frame → M Src} {N : List Str} {sc : Scope} {bb : Option Scope} {k i : Nat} {x : Str}
/-! ### a op b op' c -/
def chF (g g' : D → D → M D) (f1 f2 f3 : Frame → M D) : Frame → M D := fun fr => bnd (f1 fr) fun x => bnd (f2 fr) fun y => bnd (g x y) fun z => fun S => match z with
  | .bl true => bnd (f3 fr) (fun w => g' y w) S
  | .bl false => .ok (.bl false) S
  | _ => .bad
/-- an operation whose result is no new object -/
def OpN (X : Cx) (W : WE) (f : Value → Value → Sem Value) (g : D → D → M D) : Prop :=
  ∃ r, OpR X f r ∧ ∀ ι S H σ x y v u Q, SR X.K X.mg ι S H → Rp X.K ι H x v → Rp X.K ι H y u → Po X.K X.mg ι H (g x y S) (kE X.K Q) (kX X.K X.mg W σ) → r v u H Q
/-! ### values of the module -/
/-- a tuple of texts of the module -/
def TupS (K : PySem.W.Frag) (mg : Str → Option Value) (x : Str) (l : List Str) : Prop := ∃ a, mg x = some (.ref a) ∧ ∀ H, SqT K H a (l.map .str)
/-- what the object of such a tuple is -/
def StrsV : List Str → List Value → Prop
  | [], us => us = []
  | x :: xs, us => ∃ t r, us = .str x t :: r ∧ StrsV xs r
/-! ### the signs of a text -/
def chars (z : Str) : List D := z.cps.toList.map fun c => .str ⟨#[c]⟩
def itS (f : Frame → M D) : Frame → M Src := fun fr => bnd (f fr) fun d => fun S => match d with
  | .str z => .ok (fun _ => some (chars z)) S
  | _ => .bad
theorem DI_str (ha : DE X W fa e) : DI X W (itS fa) tg e := by
  refine ⟨_, pi_str ha, fun σ H ι fr S R s f h => ⟨ι, fr, S, s, f, h.bnd.imp (fun d S1 ι1 H1 m1 s1 h1 v r1 => ?_) fun _ _ _ _ _ _ z => z⟩⟩
  split at h1
  · rename_i z
    cases r1
    refine ⟨z, rfl, h1.ok s1 (Its z) (fun _ _ => True) ⟨fun _ _ _ _ _ _ => trivial, fun ι S H xs i s _ h hl => ?_, fun ι S H xs i x s _ h hx => ?_, fun ι S H xs i x v H' s _ h hx hy => ?_⟩ trivial⟩
    all_goals cases h
    · have : z.cps.size ≤ i := by simpa [chars] using hl
      exact this
    · have := (List.getElem?_eq_some_iff.mp hx).1
      have : i < z.cps.size := by simpa [chars] using this
      exact this
    · obtain ⟨rfl, q, hq, rfl⟩ := hy
      refine ⟨Mn.refl, s, ?_⟩
      unfold chars at hx
      rw [List.getElem?_map, Array.getElem?_toList, hq] at hx
      cases hx
      rfl
  · exact h1.bad
end
/-! ### a def that calls itself: no fuel -/
theorem FnD.zero {P : Program} {w : World} {K : PySem.W.Frag} {mg : Str → Option Value} {base : Heap} {k : Nat} {x : Str} {n : Nat} {f : Addr} {fd : FuncData} {ps : List Str} (hm : mg x = some (.ref f)) (kp : PySem.W.keepIn K (.ref f) = true) (hn : ps.length = n) (hb : Binds K fd ps []) :
    FnD P w K mg base CX0 k x n [] fun _ => bad := by
  refine ⟨f, fd, ps, [], [], hm, kp, ⟨fun vs H Q E h => ?_, fun A outer s H args us vs Q E hr e0 hb' hv h => ?_⟩, hb, .nil, fun _ _ => rfl⟩
  · obtain ⟨_, _, _, _, _, _, h⟩ := h; exact h.elim
  · obtain ⟨_, _, _, _, _, _, h⟩ := h; exact h.elim
end DL
namespace DL
open PySem PySem.Spec PyProof.Rows L2
open Sem (wp)
/-! ### enumerate(a tuple) -/
section
variable {prog : Program} {w : World} {A : Around} {E : Value → Shared → Prop} {s : Shared}
end
def IteT (K : PySem.W.Frag) (a : Addr) : It :=
  ⟨fun i H => ∃ (xs : List V) (x : V), SqT K H a xs ∧ xs[i]? = some x, fun i H v H' => ∃ T x, v = .ref T ∧ H T = none ∧ H' = upd H T (.tup [.int (i : Nat), x]) ∧ ∀ xs, SqT K H a xs → xs[i]? = some x, fun i H => ∃ xs : List V, SqT K H a xs ∧ xs.length ≤ i⟩
/-- enumerate(a list or a tuple that does not change) -/
def iEnumA (K : PySem.W.Frag) (ta : TA) : TI := fun σ H R => ta σ H fun vs H1 => ∃ a xs, vs = [.ref a] ∧ ((SqL K H1 a xs ∧ R (Ite K a) H1) ∨ (SqT K H1 a xs ∧ R (IteT K a) H1))
section
variable {X : Cx} {W : WE} {e tg : Expr} {p pos tpos : Pos} {elts : List Expr} {kk : Nat} {fs : List (Frame → M D)}
/-- the items with their places -/
def enumL (l : List D) : List D := l.zipIdx.map fun x => .tup [.int (x.2 : Nat), x.1]
def enm (l : List D) : M Src := fun S => match l with
  | [.tup l] => .ok (fun _ => some (enumL l)) S
  | [.lst l] => .ok (fun _ => some (enumL l)) S
  | _ => .bad
end
end DL
namespace DL
open PySem PySem.Spec PyProof.Rows L2
open SeqAt (shaped)
/-! ### sorted(ints) -/
def insI (x : Int) : List Int → List Int
  | [] => [x]
  | y :: r => if x ≤ y then x :: y :: r else y :: insI x r
def sortI : List Int → List Int
  | [] => []
  | x :: r => insI x (sortI r)
def sortedD (xs : List D) : M D := fun S => match (oneL S xs).bind intsL with
  | some ns => .ok (.lst ((sortI ns).map .int)) S
  | none => .bad
def fmtD (x : D) : M D := fun S => match x with
  | .str a => if a.length ≤ sizeLine then .ok (.str a) S else .bad
  | .int i => if i.natAbs.log2 < 1920 then .ok (.str (toString i)) S else .bad
  | _ => .bad
section
variable {X : Cx} {W : WE} {e : Expr} {es : List Expr} {pos : Pos} {fe : Frame → M D} {fs : List (Frame → M D)} {ι : List Addr} {H : Hp} {σ : L2.St}
/-! ### f'..' -/
def catD (x y : D) : M D := fun S => match x, y with
  | .str a, .str b => if (a ++ b).length ≤ sizeLine then .ok (.str (a ++ b)) S else .bad
  | _, _ => .bad
def fsN (k : Str → M D) (acc : Str) (x : D) : M D := fun S => match x with
  | .str y => if (acc ++ y).length ≤ sizeLine then k (acc ++ y) S else .bad
  | _ => .bad
def fsF : List (Frame → M D) → Str → Frame → M D
  | [], acc, _ => ret (.str acc)
  | f :: fs, acc, fr => bnd (f fr) (fsN (fun a => fsF fs a fr) acc)
inductive DJ (X : Cx) (W : WE) : List Expr → List (Frame → M D) → Prop where
  | nil : DJ X W [] []
  | cons {e : Expr} {f : Frame → M D} {es : List Expr} {fs : List (Frame → M D)} (h : DE X W f e) (r : DJ X W es fs) : DJ X W (e :: es) (f :: fs)
end
end DL
namespace DL
open PySem PySem.Spec PyProof.Rows L2
open SeqAt (shaped)
/-! ### instances of own classes -/
def insS (S : Store) : D → Option (Nat × Str × List (Str × D))
  | .ob n => match S[n]? with
    | some (some (.ins c fs)) => some (n, c, fs)
    | _ => none
  | _ => none
section
variable {K : PySem.W.Frag} {mg : Str → Option Value} {ι : List Addr} {H : Hp}
theorem Rkv.length {κ : Type} : ∀ {fs : List (κ × D)} {vs : List (κ × V)}, Rkv K ι H fs vs → fs.length = vs.length
  | [], _, h => by cases h; rfl
  | (k, x) :: r, _, h => by
    obtain ⟨v, w, rfl, h1, h2⟩ := h
    simp [Rkv.length h2]
def putD (f : Str) (d : D) : List (Str × D) → List (Str × D)
  | [] => [(f, d)]
  | (g, x) :: r => if g = f then (g, d) :: r else (g, x) :: putD f d r
end
/-- a class of the module without a class attribute of this name -/
def AtD (K : PySem.W.Frag) (mg : Str → Option Value) (f : Str) (c : Str) : Prop := ∃ C, mg c = some (.ref C) ∧ Cls K C ∧ NoAttr K C f
def AtDs (K : PySem.W.Frag) (mg : Str → Option Value) (f : Str) : List Str → Prop
  | [] => True
  | c :: r => AtD K mg f c ∧ AtDs K mg f r
def fldD (cs : List Str) (f : Str) (o : D) : M D := fun S => match insS S o with
  | some (_, c, fs) => if cs.contains c = true then (match fs.lookup f with
    | some d => .ok d S
    | none => .bad) else .bad
  | none => .bad
def fldF (cs : List Str) (f : Str) (fo : Frame → M D) : Frame → M D := fun fr => bnd (fo fr) (fldD cs f)
def setA (cs : List Str) (f : Str) (o d : D) : M Unit := fun S => match insS S o with
  | some (n, c, fs) => if cs.contains c = true ∧ fs.length < 1000 then .ok () (S.set n (some (.ins c (putD f d fs)))) else .bad
  | none => .bad
def tgAtt (cs : List Str) (f : Str) (fo : Frame → M D) : D → Frame → M Frame := fun d fr => bnd (nox (fo fr)) fun o => bnd (setA cs f o d) fun _ => ret fr
/-- an assignment's attribute -/
def gFld (K : PySem.W.Frag) (ta : TE) (f : Str) : TG := fun y σ H Q => ta σ H fun x H2 => ∃ a C dx fs, x = .ref a ∧ H2 a = some (.ins C dx fs) ∧ Cls K C ∧ NoAttr K C f ∧ fs.length < 1000 ∧ Q σ (upd H2 a (.ins C dx (putF f y fs)))
section
variable {X : Cx} {W : WE} {o e : Expr} {es : List Expr} {pos p apos : Pos} {fo fe : Frame → M D} {fs : List (Frame → M D)} {cs : List Str} {f x m : Str} {ta : TE} {N : List Str} {sc : Scope} {b : Option Scope} {k : Nat}
end
/-! ### methods, properties, making -/
structure MtdD (P : Program) (w : World) (K : PySem.W.Frag) (mg : Str → Option Value) (base : Heap) (CX : CXT) (k : Nat) (c m : Str) (n : Nat) (dds : List D) (F : List D → M D) : Prop where
  ex : ∃ (C f : Addr) (fd : FuncData) (ps : List Str) (ds : List Value) (dvs : List V), mg c = some (.ref C) ∧ Cls K C ∧ Meth K C m f ∧ FnOk P w K mg base CX k f fd ps (spD K mg n F) ∧ Binds K fd ps ds ∧ Vals dvs ds ∧ ∀ ι H, Rps K ι H dds dvs
structure PrpD (P : Program) (w : World) (K : PySem.W.Frag) (mg : Str → Option Value) (base : Heap) (CX : CXT) (k : Nat) (c m : Str) (F : List D → M D) : Prop where
  ex : ∃ (C p g : Addr) (fd : FuncData) (ps : List Str), mg c = some (.ref C) ∧ Cls K C ∧ PropOf K C m p g ∧ FnOk P w K mg base CX k g fd ps (spD K mg 1 F) ∧ Binds K fd ps []
structure IniD (P : Program) (w : World) (K : PySem.W.Frag) (mg : Str → Option Value) (base : Heap) (CX : CXT) (k : Nat) (c : Str) (n : Nat) (dds : List D) (F : List D → M D) : Prop where
  ex : ∃ (C f : Addr) (fd : FuncData) (ps : List Str) (ds : List Value) (dvs : List V), mg c = some (.ref C) ∧ Mk K C f ∧ FnOk P w K mg base CX k f fd ps (spD K mg n F) ∧ Binds K fd ps ds ∧ Vals dvs ds ∧ ∀ ι H, Rps K ι H dds dvs
abbrev Tab := List (Str × (List D → M D))
/-- the methods of this name, class by class; n: how many arguments are written -/
inductive TabM (P : Program) (w : World) (K : PySem.W.Frag) (mg : Str → Option Value) (base : Heap) (k : Nat) (m : Str) (n : Nat) : Tab → Prop where
  | nil : TabM P w K mg base k m n []
  | cons {c : Str} {j l : Nat} {dds : List D} {F : List D → M D} {t : Tab} (h : MtdD P w K mg base CX0 j c m l dds F) (hj : j ≤ k) (hn : n + 1 + dds.length = l) (r : TabM P w K mg base k m n t) : TabM P w K mg base k m n ((c, fun xs => F (xs ++ dds)) :: t)
inductive TabP (P : Program) (w : World) (K : PySem.W.Frag) (mg : Str → Option Value) (base : Heap) (k : Nat) (m : Str) : Tab → Prop where
  | nil : TabP P w K mg base k m []
  | cons {c : Str} {j : Nat} {F : List D → M D} {t : Tab} (h : PrpD P w K mg base CX0 j c m F) (hj : j + 1 ≤ k) (r : TabP P w K mg base k m t) : TabP P w K mg base k m ((c, F) :: t)
section
variable {P : Program} {w : World} {K : PySem.W.Frag} {mg : Str → Option Value} {base : Heap} {k n : Nat} {m : Str}
end
def mtdF (m : Str) (tab : Tab) (fo : Frame → M D) (fs : List (Frame → M D)) : Frame → M D := fun fr => bnd (nox (fo fr)) fun o => fun S => match insS S o with
  | some (_, c, fl) => if fl.lookup m = none then (match tab.lookup c with
    | some F => bnd (seqA fs fr) (fun xs => nox (F (o :: xs))) S
    | none => .bad) else .bad
  | none => .bad
def prpF (tab : Tab) (fo : Frame → M D) : Frame → M D := fun fr => bnd (nox (fo fr)) fun o => fun S => match insS S o with
  | some (_, c, _) => (match tab.lookup c with
    | some F => nox (F [o]) S
    | none => .bad)
  | none => .bad
def makF (c : Str) (F : List D → M D) (fs : List (Frame → M D)) : Frame → M D := fun fr => bnd (seqA fs fr) fun xs => fun S => match F (.ob S.length :: xs) (S ++ [some (.ins c [])]) with
  | .ok .non S' => .ok (.ob S.length) S'
  | _ => .bad
def makO (c : Str) : Frame → M D := fun _ S => .ok (.ob S.length) (S ++ [some (.ins c [])])
section
variable {X : Cx} {W : WE} {o e : Expr} {es : List Expr} {pos p apos : Pos} {fo fe : Frame → M D} {fs : List (Frame → M D)} {cs : List Str} {f x m : Str} {N : List Str} {sc : Scope} {b : Option Scope} {k : Nat} {tab : Tab}
/-- C() where there is no own __init__ -/
structure MkO (K : PySem.W.Frag) (C : Addr) : Prop where
  makes : PySem.W.makesIn K C = true
  init : PySem.W.findIn K (.ref C) "__init__" = some (some (.builtin "object.__init__"))
  top : PySem.W.mroIn K C (.type "object") = some true
  kp : PySem.W.keepIn K (.ref C) = true
def MkOD (K : PySem.W.Frag) (mg : Str → Option Value) (c : Str) : Prop := ∃ C, mg c = some (.ref C) ∧ MkO K C
def tMakeO (C : Addr) : TE := fun _ H Q => ∀ x dx, H x = none → H dx = none → dx ≠ x → Q (.ref x) (upd (upd H dx (.own x)) x (.ins C dx []))
end
end DL
namespace DL
open PySem PySem.Spec PyProof.Rows L2
open SeqAt (shaped)
/-! ### dicts -/
def keyD : D → Option Key
  | .int i => some (.inl i)
  | .str s => some (.inr s)
  | _ => none
def keysL : List D → Option (List Key)
  | [] => some []
  | d :: r => match keyD d, keysL r with
    | some k, some ks => some (k :: ks)
    | _, _ => none
section
variable {κ : Type} [DecidableEq κ]
def valD (l : List (κ × D)) (k : κ) : Option D := (l.find? fun kv => decide (kv.1 = k)).map (·.2)
def putKD (l : List (κ × D)) (k : κ) (v : D) : List (κ × D) :=
  if (l.any fun kv => decide (kv.1 = k)) = true then l.map (fun kv => if kv.1 = k then (kv.1, v) else kv) else l ++ [(k, v)]
end
section
variable {K : PySem.W.Frag} {mg : Str → Option Value} {ι : List Addr} {H : Hp} {κ : Type} [DecidableEq κ]
theorem keyD_rp {d : D} {v : V} {k : Key} (r : Rp K ι H d v) (h : keyD d = some k) : v = kV k := by
  cases d with
  | int i => cases h; cases r; rfl
  | str i => cases h; cases r; rfl
  | _ => cases h
theorem keysL_rps : ∀ {l : List D} {vs : List V} {ks : List Key}, Rps K ι H l vs → keysL l = some ks → vs = ks.map kV
  | [], _, _, r, h => by cases h; cases r; rfl
  | d :: l, _, ks, r, h => by
    obtain ⟨v, w, rfl, r1, r2⟩ := r
    unfold keysL at h
    cases e1 : keyD d with
    | none => rw [e1] at h; cases h
    | some k =>
      cases e2 : keysL l with
      | none => rw [e1, e2] at h; cases h
      | some k2 =>
        rw [e1, e2] at h
        cases h
        rw [keyD_rp r1 e1, keysL_rps r2 e2]
        rfl
theorem Rkv.app {l m : List (κ × D)} : ∀ {vs ws : List (κ × V)}, Rkv K ι H l vs → Rkv K ι H m ws → Rkv K ι H (l ++ m) (vs ++ ws) := by
  induction l with
  | nil => intro vs ws h h'; cases h; exact h'
  | cons x r ih =>
    intro vs ws h h'
    obtain ⟨v, w, rfl, h1, h2⟩ := h
    exact ⟨v, _, rfl, h1, ih h2 h'⟩
theorem Rkv.any {k : κ} : ∀ {l : List (κ × D)} {vs : List (κ × V)}, Rkv K ι H l vs → (l.any fun kv => decide (kv.1 = k)) = vs.any fun kv => decide (kv.1 = k)
  | [], _, h => by cases h; rfl
  | (k', d) :: r, _, h => by
    obtain ⟨v, w, rfl, h1, h2⟩ := h
    simp only [List.any_cons, Rkv.any h2]
theorem Rkv.mapPut {k : κ} {d : D} {v : V} (q : Rp K ι H d v) : ∀ {l : List (κ × D)} {vs : List (κ × V)}, Rkv K ι H l vs → Rkv K ι H (l.map fun kv => if kv.1 = k then (kv.1, d) else kv) (vs.map fun kv => if kv.1 = k then (kv.1, v) else kv)
  | [], _, h => by cases h; rfl
  | (k', d') :: r, _, h => by
    obtain ⟨u, w, rfl, h1, h2⟩ := h
    simp only [List.map_cons]
    by_cases e : k' = k
    · simp only [e, if_true]
      exact ⟨v, _, rfl, q, by simpa [e] using Rkv.mapPut q h2⟩
    · simp only [e, if_false]
      exact ⟨u, _, rfl, h1, Rkv.mapPut q h2⟩
theorem Rkv.putK {k : κ} {d : D} {v : V} (q : Rp K ι H d v) {l : List (κ × D)} {vs : List (κ × V)} (h : Rkv K ι H l vs) : Rkv K ι H (putKD l k d) (L2.putK vs k v) := by
  unfold putKD L2.putK
  rw [h.any]
  by_cases e : (vs.any fun kv => decide (kv.1 = k)) = true
  · rw [if_pos e, if_pos e]; exact h.mapPut q
  · rw [if_neg e, if_neg e]; exact h.app ⟨v, [], rfl, q, rfl⟩
end
/-- d[y] -/
def dgtD (x y : D) : M D := fun S => match x with
  | .ob n => (match S[n]? with
    | some (some (.dk l)) => (match (keyD y).bind (valD l) with
      | some d => .ok d S
      | none => .bad)
    | some (some (.dt l)) => (match y with
      | .tup ys => (match (keysL ys).bind (valD l) with
        | some d => .ok d S
        | none => .bad)
      | _ => .bad)
    | _ => .bad)
  | _ => .bad
/-- d[y] = v -/
def dstD (x y v : D) : M Unit := fun S => match x with
  | .ob n => (match S[n]? with
    | some (some (.dk l)) => (match keyD y with
      | some k => if l.length < 100000 then .ok () (S.set n (some (.dk (putKD l k v)))) else .bad
      | none => .bad)
    | some (some (.dt l)) => (match y with
      | .tup ys => (match keysL ys with
        | some k => if l.length < 100000 then .ok () (S.set n (some (.dt (putKD l k v)))) else .bad
        | none => .bad)
      | _ => .bad)
    | _ => .bad)
  | _ => .bad
def tgDic (fo fi : Frame → M D) : D → Frame → M Frame := fun d fr => bnd (nox (fo fr)) fun o => bnd (nox (fi fr)) fun i => bnd (dstD o i d) fun _ => ret fr
def dctK : Frame → M D := fun _ => newO (.dk [])
def dctT : Frame → M D := fun _ => newO (.dt [])
theorem hundred {n : Nat} (h : n < 100000) : n < sizeLine := by rw [sizeLine_eq]; omega
section
variable {X : Cx} {W : WE} {a b c e e2 tg : Expr} {es : List Expr} {pos p tpos : Pos} {fa fb fc : Frame → M D} {ι : List Addr} {H : Hp} {σ : L2.St} {s : Shared} {pins : List (Addr × Obj)} {fs : List (Frame → M D)} {elts : List Expr} {kk : Nat}
theorem DG_dic (hu : X.A.units + 64 < cLine) (ho : DE X W fa a) (hi : DE X W fb b)
    (has : ∀ v, assign (.Subscript a b pos) X.env v = (do
      let ov ← holding [v] (eval a X.env)
      let iv ← holding [v, ov] (eval b X.env)
      standAt pos
      holding [v, ov, iv] (setItem ov iv v)
      release [v, ov, iv] []) := by intro _; rfl) : DG X [] (tgDic fa fb) (.Subscript a b pos) := by
  refine ⟨fun pins s σ H v u Q I r h => ?_⟩
  obtain ⟨ι, fr, S, d, hS, hF, hr, h⟩ := h
  refine (pg_sub ho hi (set_dict (by omega)) has).run pins s σ H v u Q I r ?_
  refine ⟨ι, fr, S, hS, hF, ?_⟩
  refine Po.noxk (e := fun _ _ _ _ => False) ?_
  refine Po.imp (Po.bnd h) (fun o S1 ι1 H1 m1 s1 h1 ov ro => ?_) (fun _ _ _ _ _ _ z => z)
  refine ⟨ι1, fr, S1, s1, m1.fr hF, ?_⟩
  refine Po.noxk (e := fun _ _ _ _ => False) ?_
  refine Po.imp (Po.bnd h1) (fun i S2 ι2 H2 m2 s2 h2 iv ri => ?_) (fun _ _ _ _ _ _ z => z)
  have ro2 := m2.rp ro
  have rv2 := (m1.trans m2).rp hr
  have h2' := h2.bndE
  unfold dstD at h2'
  split at h2'
  · rename_i n
    obtain ⟨p, rfl, hix⟩ := ro2
    split at h2'
    · rename_i l hl
      obtain ⟨p', e1, vs, hp, hk⟩ := s2.obj n _ hl
      rw [hix] at e1
      cases e1
      split at h2'
      · rename_i k hy
        split at h2'
        · rename_i hlen
          have hv := keyD_rp ri hy
          subst hv
          have mw := Mn.write (u := .dK (L2.putK vs k v)) s2 hix hl
          have s3 : SR X.K X.mg ι2 (S2.set n (some (.dk (putKD l k d)))) (upd H2 p (.dK (L2.putK vs k v))) := s2.write hix hl (by intro _ z; cases z) fun z hz => by
            cases hz
            exact ⟨_, upd_same, (mw.rkv hk).putK (mw.rp rv2)⟩
          exact ⟨p, _, rfl, DPut.k hp (hundred (by rw [← hk.length]; exact hlen)), (h2' _ _ mw s3).2.ok s3 σ (((m1.trans m2).trans mw).fr hF) Tch.refl⟩
        · exact h2'.bad
      · exact h2'.bad
    · rename_i l hl
      obtain ⟨p', e1, vs, hp, hk⟩ := s2.obj n _ hl
      rw [hix] at e1
      cases e1
      split at h2'
      · rename_i ys
        split at h2'
        · rename_i k hy
          split at h2'
          · rename_i hlen
            obtain ⟨t, us, rfl, ht, hus⟩ := ri
            have hv := keysL_rps hus hy
            subst hv
            have mw := Mn.write (u := .dT (L2.putK vs k v)) s2 hix hl
            have s3 : SR X.K X.mg ι2 (S2.set n (some (.dt (putKD l k d)))) (upd H2 p (.dT (L2.putK vs k v))) := s2.write hix hl (by intro _ z; cases z) fun z hz => by
              cases hz
              exact ⟨_, upd_same, (mw.rkv hk).putK (mw.rp rv2)⟩
            exact ⟨p, _, rfl, DPut.t hp ht (hundred (by rw [← hk.length]; exact hlen)), (h2' _ _ mw s3).2.ok s3 σ (((m1.trans m2).trans mw).fr hF) Tch.refl⟩
          · exact h2'.bad
        · exact h2'.bad
      · exact h2'.bad
    · exact h2'.bad
  · exact h2'.bad
theorem ob_new {ι : List Addr} {S : Store} {H : Hp} {Q : VK} {o : O} {u : HO} {e : Exc → Store → List Addr → Hp → Prop} (s : SR X.K X.mg ι S H) (hu : ∀ xs, u ≠ .tup xs) (r : ∀ ι' p H', Mn ι H ι' H' → H' p = some u → OR X.K ι' H' X.mg o p) (h : Po X.K X.mg ι H (newO o S) (kE X.K Q) e)
    (p : Addr) (hp : H p = none) : Q (.ref p) (upd H p u) := by
  have m : Mn ι H (ι ++ [p]) (upd H p u) := Mn.new hp
  refine h _ _ m (s.new hp hu (r _ p _ m upd_same)) _ ⟨p, rfl, ?_⟩
  rw [s.len]; simp
theorem DE_dctT : DE X W dctT (.Dict [] [] pos) := DE.of pe_dnewT fun σ H Q ι fr S s f h p hp => .inl (ob_new (o := .dt []) s (by intro _ z; cases z) (fun _ p _ _ hp => ⟨[], hp, rfl⟩) h p hp)
/-! ### displays of dicts -/
def pairsF : List ((Frame → M D) × (Frame → M D)) → Frame → M (List (D × D))
  | [], _ => ret []
  | (f, g) :: r, fr => bnd (f fr) fun x => bnd (g fr) fun y => bnd (pairsF r fr) fun ps => ret ((x, y) :: ps)
def keyedD : List (D × D) → Option (List (Key × D))
  | [] => some []
  | (x, y) :: r => match keyD x, keyedD r with
    | some k, some ks => some ((k, y) :: ks)
    | _, _ => none
def mergeD (l more : List (Key × D)) : List (Key × D) := more.foldl (fun acc kv => putKD acc kv.1 kv.2) l
def dispF (fs : List ((Frame → M D) × (Frame → M D))) : Frame → M D := fun fr => bnd (pairsF fs fr) fun ps => fun S => match keyedD ps with
  | some l => newO (.dk (mergeD [] l)) S
  | none => .bad
/-- the derivation of a display's pairs -/
inductive DPs (X : Cx) (W : WE) (pos : Pos) : List (Option Expr) → List Expr → List ((Frame → M D) × (Frame → M D)) → Prop where
  | nil : DPs X W pos [] [] []
  | cons {k v : Expr} {ks : List (Option Expr)} {vs : List Expr} {f g : Frame → M D} {fs : List ((Frame → M D) × (Frame → M D))} (h1 : DE X W f k) (h2 : DE X W g v) (r : DPs X W pos ks vs fs) : DPs X W pos (some k :: ks) (v :: vs) ((f, g) :: fs)
def RpP (K : PySem.W.Frag) (ι : List Addr) (H : Hp) : List (D × D) → List (V × V) → Prop
  | [], vs => vs = []
  | (x, y) :: r, vs => ∃ v w t, vs = (v, w) :: t ∧ Rp K ι H x v ∧ Rp K ι H y w ∧ RpP K ι H r t
/-! ### zip of two tuples, of two lists -/
def zipL : List D → List D → List D
  | x :: l, y :: m => .tup [x, y] :: zipL l m
  | _, _ => []
def zipS (l : List D) : M Src := fun S => match l with
  | [.tup l, .tup m] => .ok (fun _ => some (zipL l m)) S
  | [.lst l, .lst m] => .ok (fun _ => some (zipL l m)) S
  | _ => .bad
end
end DL
namespace DL
open PySem PySem.Spec PyProof.Rows L2
open SeqAt (shaped)
/-! ### defs with defaults -/
abbrev FunE (K : PySem.W.Frag) (x qual : Str) (st : Stmt) (dvs : List V) (f : Addr) (fd : FuncData) : Prop := FunD K x qual (defArgs st) (defBody st) (defScope st) dvs [] f fd
/-- what the defaults are -/
def DfD (K : PySem.W.Frag) : D → Value → Prop
  | .str x, u => ∃ t, u = .str x t
  | .int i, u => ∃ t, u = .int i t
  | .ctu l, u => ∃ (a : Addr) (o : Obj) (its : Array Value) (n : Nat), u = .ref a ∧ K.lookup a = some o ∧ o.cls = .type "tuple" ∧ o.data = .seq its n ∧ its.size ≤ 1000 ∧ ∃ vs, Vals vs its.toList ∧ ∀ ι H, Rps K ι H l vs
  | _, _ => False
def DfDs (K : PySem.W.Frag) : List D → List Value → Prop
  | [], us => us = []
  | d :: r, us => ∃ u t, us = u :: t ∧ DfD K d u ∧ DfDs K r t
/-- a def with these defaults stands -/
structure FunG (K : PySem.W.Frag) (x qual : Str) (st : Stmt) (dds : List D) (f : Addr) (fd : FuncData) : Prop where
  ex : ∃ dvs, FunE K x qual st dvs f fd ∧ dvs.length = dds.length ∧ ∀ ι H, Rps K ι H dds dvs
  ne : dds ≠ []
  kp : PySem.W.keepIn K (.ref f) = true
/-! ### a call with keywords for the last parameters, in their order -/
structure FnK (P : Program) (w : World) (K : PySem.W.Frag) (mg : Str → Option Value) (base : Heap) (CX : CXT) (k : Nat) (x : Str) (n m : Nat) (ks : List Str) (F : List D → M D) : Prop where
  ex : ∃ (f : Addr) (fd : FuncData) (ps : List Str), mg x = some (.ref f) ∧ PySem.W.keepIn K (.ref f) = true ∧ FnOk P w K mg base CX k f fd ps (spD K mg (n + m) F) ∧ ks.length = m ∧ KBn K fd ps n ks (fun us ws => us ++ ws) (fun vs zs => vs ++ zs)
def calK (F : List D → M D) (fs gs : List (Frame → M D)) : Frame → M D := fun fr => bnd (seqA fs fr) fun xs => bnd (seqA gs fr) fun ys => nox (F (xs ++ ys))
section
variable {X : Cx} {W : WE} {e : Expr} {es : List Expr} {pos p : Pos} {fs gs : List (Frame → M D)} {x : Str} {kws : List Keyword}
/-- the keywords' values -/
inductive DKw (X : Cx) (W : WE) : List Keyword → List (Frame → M D) → Prop where
  | nil : DKw X W [] []
  | cons {nm : Option Str} {e : Expr} {kp : Pos} {f : Frame → M D} {r : List Keyword} {gs : List (Frame → M D)} (h : DE X W f e) (t : DKw X W r gs) : DKw X W (⟨nm, e, kp⟩ :: r) (f :: gs)
end
end DL
namespace DL
open PySem PySem.Spec PyProof.Rows L2
/-! ### empty dicts as data: made, and shown by repr -/
/-- the dict of the modules stands -/
def SysX (X : Cx) : Prop := ∃ mm, X.base.Ns sysModules mm
def empF : Frame → M D := fun _ => ret .emp
def reprE (xs : List D) : M D := fun S => match xs with
  | [d] => (match pyS S d with
    | some p => if p.showable = true ∧ p.depth ≤ 60 ∧ p.shown.length ≤ sizeLine then .ok (.str p.shown) S else .bad
    | none => .bad)
  | _ => .bad
section
variable {X : Cx} {W : WE} {pos : Pos}
variable {pins : List (Addr × Obj)} {σ : L2.St} {H : Hp} {s : Shared} {ι : List Addr}
end
/-- what the law's run must show, from the abstract heap in which the script alone may be tracked -/
def LawRunS (P : Program) (w : World) (K : PySem.W.Frag) (mg : Str → Option Value) (fa : Addr) : Prop :=
  ∀ (base : Heap) (s : Shared) (H : Hp) (a : Addr) (ns : List Int), K.In base → base.Ns mainGlobals mg → (∃ mm, base.Ns sysModules mm) → Env0 P w K mg base callerA [] s H → Ls K H a (ns.map V.int) → ns.length ≤ 63 →
    codeAny (model P w) callerA (.call (.ref fa) ⟨[.ref a], []⟩) (CR CX0 [] P w H s (fun v _ => v = .bl true) E0) s
end DL
namespace DL
open PySem PySem.Spec PyProof.Rows L2
/-! ### texts and tuples some times -/
def repS (a : Str) (n : Nat) : Str := ⟨(List.replicate n a.cps).foldl (· ++ ·) #[]⟩
noncomputable def mul2D (x y : D) : M D := fun S => match x, y with
  | .str a, .int k => if 2 ≤ k ∧ k ≤ 1000 ∧ 1 ≤ a.length ∧ a.length ≤ 1000 then .ok (.str (repS a k.toNat)) S else .bad
  | .tup l, .int k => if l ≠ [] ∧ 2 ≤ k ∧ k ≤ 1000 ∧ l.length ≤ 1000 then .ok (.tup (List.replicate k.toNat l).flatten) S else .bad
  | x, y => mulD x y S
section
variable {X : Cx} {W : WE}
end
end DL
namespace DL
namespace EqS
open PySem PySem.SeqAt MeetsSeq
section
variable {A : Around} {s : Shared}
end
end EqS
open PySem PySem.Spec PyProof.Rows L2
open SeqAt (shaped)
/-! ### an empty dict looked for among texts -/
def txtsD : List D → Option (List Str)
  | [] => some []
  | .str a :: r => (txtsD r).map (a :: ·)
  | _ :: _ => none
/-- a text, or a thing that is none -/
def eqS (x : D) (b : Str) : Bool := match x with
  | .str a => b == a
  | _ => false
def amongS (x : D) (ss : List Str) : Bool := ss.any (eqS x)
def noOb : D → Bool
  | .ob _ => false
  | _ => true
def strV : Value → Str
  | .str b _ => b
  | _ => Str.empty
def inE (x y : D) : M D := fun S => match (lstL S y).bind txtsD with
  | some ss => if noOb x = true then .ok (.bl (amongS x ss)) S else .bad
  | none => inD x y S
def notInE (x y : D) : M D := fun S => match (lstL S y).bind txtsD with
  | some ss => if noOb x = true then .ok (.bl (!amongS x ss)) S else .bad
  | none => notInD x y S
section
variable {X : Cx} {W : WE} {ι : List Addr} {H : Hp} {σ : L2.St} {s : Shared} {pins : List (Addr × Obj)}
end
end DL
namespace DL
open PySem PySem.Spec PyProof.Rows L2
open SeqAt (shaped)
/-! ### the pairs of a dict with tuple keys, while it is locked -/
/-- the turns: each pair is a new tuple -/
def ItP (d : Addr) (o : Obj) (kvs : List (List Key × V)) : It where
  go := fun i H => H d = some (.frz o (.dT kvs)) ∧ i < kvs.length
  yld := fun i H x H' => ∃ T k v q, kvs[i]? = some (k, v) ∧ H q = some (.tup (k.map kV)) ∧ x = .ref T ∧ H T = none ∧ H' = upd H T (.tup [.ref q, v])
  stop := fun i H => H d = some (.frz o (.dT kvs)) ∧ kvs.length ≤ i
section
variable {X : Cx} {pins : List (Addr × Obj)} {σ : L2.St} {H : Hp} {s : Shared} {d : Addr} {o : Obj}
end
/-- for .. in e.items(), tuple keys -/
def iPairs (td : TE) : TI := fun σ H R => td σ H fun x H1 => ∃ d o kvs, x = .ref d ∧ H1 d = some (.frz o (.dT kvs)) ∧ R (ItP d o kvs) H1
end DL
namespace DL
open PySem PySem.Spec PyProof.Rows L2
open SeqAt (shaped)
/-! ### comprehensions over the pairs of a dict, which stays frozen from then on -/
section
variable {X : Cx} {elt tg iter : Expr} {ifs : List Expr} {scope : Scope} {pos : Pos} {own : List (Str × Nat)} {fi : Frame → M Src} {g : D → Frame → M Frame} {ft : Frame → M Bool} {fe : Frame → M D} {ts : List Nat}
end
def tFrz (t : TE) : TE := fun σ H Q => ∃ d u, H d = some u ∧ Mut (some u) ∧ ∀ od, t σ (upd H d (.frz od u)) Q
def kD : Key → D
  | .inl i => .int i
  | .inr s => .str s
def itemsT (l : List (List Key × D)) : List D := l.map fun kv => .tup [.tup (kv.1.map kD), kv.2]
def itemsK (l : List (Key × D)) : List D := l.map fun kv => .tup [kD kv.1, kv.2]
def itmO : O → Option (List D)
  | .dt l => some (itemsT l)
  | .dk l => some (itemsK l)
  | _ => none
def oItm : Option (Option O) → Option (List D)
  | some (some o) => itmO o
  | _ => none
noncomputable def cmpI (vs : List Nat) (i : Nat) (g : D → Frame → M Frame) (t : Frame → M Bool) (elt : Frame → M D) : Frame → M D := fun fr S => match fr[i]? with
  | some (some (.ob n)) => (match oItm S[n]? with
    | some xs => bnd (cmpF vs (fun _ => ret fun _ => some xs) g t elt fr) (fun l => ret (.lst l)) (S.set n none)
    | none => .bad)
  | _ => .bad
section
variable {X : Cx} {K : PySem.W.Frag} {mg : Str → Option Value} {ι : List Addr} {H : Hp}
end
section
variable {X : Cx} {elt : Expr} {ifs : List Expr} {scope : Scope} {pos ap cp p tp : Pos} {own : List (Str × Nat)} {g : D → Frame → M Frame} {ft : Frame → M Bool} {fe : Frame → M D} {ts : List Nat} {x : Str} {i : Nat} {elts : List Expr} {kk : Nat}
end
end DL
namespace DL
open PySem PySem.Spec PyProof.Rows L2
open SeqAt (shaped)
/-! ### dict(pairs), tuple keys that are all unlike; d.get(k, x) -/
def pairT : D → Option (List Key × D)
  | .tup [.tup ks, v] => (keysL ks).map fun k => (k, v)
  | _ => none
def pairsT : List D → Option (List (List Key × D))
  | [] => some []
  | x :: r => match pairT x, pairsT r with
    | some p, some ps => some (p :: ps)
    | _, _ => none
def dictD (xs : List D) : M D := fun S => match xs with
  | [.ptu l] => (match pairsT l with
    | some ps => if (ps.map (·.1)).Nodup ∧ ps.length ≤ 1000000 then newO (.dt ps) S else .bad
    | none => .bad)
  | _ => .bad
section
variable {X : Cx} {pins : List (Addr × Obj)} {σ : L2.St} {H : Hp} {s : Shared} {ι : List Addr}
end
end DL
namespace DL
open PySem PySem.Spec PyProof.Rows L2
open SeqAt (shaped)
/-! ### sorted(xs), xs data that can be compared -/
def pyd (d : D) : PyData := (py d).getD .none
def tup1 : PyData → Bool
  | .tuple (_ :: _) => true
  | _ => false
def notTN : PyData → Bool
  | .none => false
  | .tuple _ => false
  | _ => true
def sortOk (ps : List PyData) : Prop := (ps.all fun a => ps.all fun b => PySem.W.alike a b) = true ∧ (ps.all tup1 = true ∨ ps.all notTN = true) ∧ PyData.depthAll ps ≤ 60 ∧ ps.length ≤ 1000000
instance (ps : List PyData) : Decidable (sortOk ps) := by unfold sortOk; infer_instance
def leX (a b : D) : Bool := !PySem.W.dataLt (pyd b) (pyd a)
def sortedX (xs : List D) : M D := fun S => match oneL S xs with
  | some l => (match pys l with
    | some ps => if sortOk ps then .ok (.lst (l.mergeSort leX)) S else .bad
    | none => .bad)
  | none => .bad
theorem pys_map : ∀ {l : List D} {ps : List PyData}, pys l = some ps → ps = l.map pyd
  | [], ps, h => by cases h; rfl
  | d :: l, ps, h => by
    unfold pys at h
    cases e1 : py d with
    | none => rw [e1] at h; cases h
    | some p =>
      cases e2 : pys l with
      | none => rw [e1, e2] at h; cases h
      | some qs =>
        rw [e1, e2] at h
        cases h
        rw [List.map_cons, ← pys_map e2]
        congr 1
        unfold pyd
        rw [e1]
        rfl
theorem depth_mem : ∀ {ps : List PyData} {p : PyData}, p ∈ ps → p.depth ≤ PyData.depthAll ps
  | q :: ps, p, h => by
    rw [PyData.depthAll]
    rcases List.mem_cons.mp h with rfl | h
    · exact Nat.le_max_left _ _
    · exact Nat.le_trans (depth_mem h) (Nat.le_max_right _ _)
theorem sortOk_at {ps : List PyData} (h : sortOk ps) : PySem.W.AllAlike ps ∧ PySem.W.Sortable ps := by
  obtain ⟨h1, h2, _⟩ := h
  refine ⟨fun d hd d' hd' => List.all_eq_true.mp (List.all_eq_true.mp h1 d hd) d' hd', ?_⟩
  rcases h2 with h2 | h2
  · refine .inl fun d hd => ?_
    have := List.all_eq_true.mp h2 d hd
    unfold tup1 at this
    split at this
    · exact ⟨_, _, rfl⟩
    · cases this
  · refine .inr fun d hd => ?_
    have := List.all_eq_true.mp h2 d hd
    unfold notTN at this
    split at this
    · cases this
    · cases this
    · rename_i a b
      exact ⟨a, b⟩
section
variable {X : Cx} {W : WE} {pins : List (Addr × Obj)} {σ : L2.St} {H : Hp} {s : Shared} {ι : List Addr}
theorem each_zip {K : PySem.W.Frag} : ∀ {l : List D} {vs : List V} {us : List Value}, Rps K ι H l vs → Vals vs us → PySem.W.EachIs (fun (u : Value) (b : V × D) => RelV b.1 u ∧ Rp K ι H b.2 b.1) us (vs.zip l)
  | [], _, _, r, rv => by cases r; cases rv; exact .nil
  | d :: l, _, _, r, rv => by
    obtain ⟨v, w, rfl, r1, r2⟩ := r
    cases rv with
    | cons u1 u2 => exact .cons ⟨u1, r1⟩ (each_zip r2 u2)
theorem zip_snd {K : PySem.W.Frag} : ∀ {l : List D} {vs : List V}, Rps K ι H l vs → (vs.zip l).map (·.2) = l
  | [], _, r => by cases r; rfl
  | d :: l, _, r => by
    obtain ⟨v, w, rfl, r1, r2⟩ := r
    rw [List.zip_cons_cons, List.map_cons, zip_snd r2]
theorem each_out {K : PySem.W.Frag} : ∀ {out : List Value} {bs : List (V × D)}, PySem.W.EachIs (fun (u : Value) (b : V × D) => RelV b.1 u ∧ Rp K ι H b.2 b.1) out bs → Vals (bs.map (·.1)) out ∧ Rps K ι H (bs.map (·.2)) (bs.map (·.1))
  | _, _, .nil => ⟨.nil, rfl⟩
  | _, _, .cons h t => by
    obtain ⟨h1, h2⟩ := each_out t
    exact ⟨.cons h.1 h1, _, _, rfl, h.2, h2⟩
def rSortX (K : PySem.W.Frag) : List V → Hp → VK → Prop := fun xs H Q => ∃ ι a l ws ps, xs = [.ref a] ∧ SqL K H a ws ∧ Rps K ι H l ws ∧ pys l = some ps ∧ sortOk ps ∧ ∀ p vs, H p = none → Rps K ι H (l.mergeSort leX) vs → Q (.ref p) (upd H p (.lst vs))
theorem cr_sortX (hu : X.A.units + 64 < cLine) : CallR X (.builtin "sorted") (rSortX X.K) := by
  intro pins s σ H xs us Q I rx h
  obtain ⟨ι, a, l, ws, ps, rfl, hq, hr, hp, ok, q⟩ := h
  obtain ⟨u, rfl, ru⟩ := vals1 rx
  obtain rfl : u = Value.ref a := ru
  obtain ⟨its, rv, pl, hz⟩ := I.list hq
  have el : ws.length = its.length := rv.length
  have e0 := hr.length
  obtain ⟨as, rd⟩ := pys_reads I l ws its ps hr rv hp
  have ep := pys_map hp
  have em : (ws.zip l).map (fun b : V × D => pyd b.2) = ps := by
    rw [show (fun b : V × D => pyd b.2) = pyd ∘ (fun b : V × D => b.2) from rfl, ← List.map_map, zip_snd hr, ep]
  have zl : (ws.zip l).length = ps.length := by rw [← em, List.length_map]
  have rd2 : ReadsAll s.heap its ((ws.zip l).map fun b : V × D => pyd b.2) as := by rw [em]; exact rd
  obtain ⟨al, so⟩ := sortOk_at ok
  refine PySem.W.sorted_data (vs := its) (enc := fun b : V × D => pyd b.2) pl.isList (each_zip hr rv) (PySem.W.readsAll_each _ rd2) (by rw [em]; exact al) (by rw [em]; exact so) (by rw [zl, sizeLine_eq]; have := ok.2.2.2; omega) (fun b hb => ?_) fun out ol eo => ?_
  · have hm : pyd b.2 ∈ ps := by rw [← em]; exact List.mem_map.mpr ⟨b, hb, rfl⟩
    have := depth_mem hm
    have := ok.2.2.1
    omega
  · obtain ⟨o1, o2⟩ := each_out eo
    have e3 : ((ws.zip l).mergeSort (PySem.W.dataLe false fun b : V × D => pyd b.2)).map (·.2) = l.mergeSort leX := by
      rw [List.map_mergeSort (r := PySem.W.dataLe false fun b : V × D => pyd b.2) (s := leX) (f := fun b : V × D => b.2) (fun a _ b _ => rfl), zip_snd hr]
    rw [e3] at o2
    obtain ⟨c, hc⟩ := sortedAll_at s.heap its out.toArray
    have e4 : ((ws.zip l).mergeSort (PySem.W.dataLe false fun b : V × D => pyd b.2)).length = ws.length := by
      rw [List.length_mergeSort, List.length_zip, e0]; simp
    exact ⟨.ref (s.heap.objs.size + 1), _, I.laid (t' := s.toks) (fun _ _ => sortedAll_old) (Nat.le_succ _) (show ObjOk X.prog X.w _ _ _ (.lst _) from ⟨by rw [List.length_map, e4]; exact hz, out, c, o1, hc⟩), rfl, q _ _ (I.hok.fresh (Nat.le_succ _)) o2⟩
theorem C_sortedX (hu : X.A.units + 64 < cLine) : CalD X W (.builtin "sorted") sortedX := by
  refine ⟨_, cr_sortX hu, fun ι S H σ xs vs Q s r h => ?_⟩
  unfold sortedX at h
  split at h
  · rename_i l hl
    split at h
    · rename_i ps hp
      split at h
      · rename_i ok
        obtain ⟨a, ws, rfl, hq, rs⟩ := one_at s r hl
        exact ⟨ι, a, l, ws, ps, rfl, hq, rs, hp, ok, fun p vs hp r2 => fz_list s r2 h p hp⟩
      · exact h.bad
    · exact h.bad
  · exact h.bad
end
end DL
namespace DL
open PySem PySem.Spec PyProof.Rows L2
open SeqAt (shaped)
/-! ### d.get(k, x); plain tuples made; x < y of data -/
def dkQ (S : Store) : D → Bool
  | .ob n => (match S[n]? with
    | some (some (.dk _)) => true
    | some (some (.dt _)) => true
    | _ => false)
  | _ => false
def dkCk (o : D) : M Unit := fun S => if dkQ S o = true then .ok () S else .bad
def getV (o k x : D) : M D := fun S => match o with
  | .ob n => (match S[n]? with
    | some (some (.dk l)) => (match keyD k with
      | some kk => .ok ((valD l kk).getD x) S
      | none => .bad)
    | some (some (.dt l)) => (match k with
      | .tup ys => (match keysL ys with
        | some kk => .ok ((valD l kk).getD x) S
        | none => .bad)
      | _ => .bad)
    | _ => .bad)
  | _ => .bad
def getF (fo fk fx : Frame → M D) : Frame → M D := fun fr => bnd (fo fr) fun o => bnd (dkCk o) fun _ => bnd (fk fr) fun k => bnd (fx fr) fun x => getV o k x
section
variable {X : Cx} {W : WE} {a b c e : Expr} {pos ap cp : Pos} {fa fb fc : Frame → M D} {ι : List Addr} {H : Hp} {σ : L2.St} {s : Shared} {pins : List (Addr × Obj)} {es : List Expr} {fs : List (Frame → M D)}
/-! ### plain tuples -/
/-- a new plain tuple -/
def tTupP (t : TA) : TE := fun σ H Q => t σ H fun xs H1 => xs.length ≤ sizeLine ∧ ∀ p o, H1 p = none → o.dict = none → Q (.ref p) (upd H1 p (.frz o (.tup xs)))
def tupP (fs : List (Frame → M D)) : Frame → M D := fun fr => bnd (seqA fs fr) fun l => ret (.ptu l)
/-- tuple(list): a plain one -/
def tupleP (xs : List D) : M D := fun S => match oneL S xs with
  | some l => .ok (.ptu l) S
  | none => .bad
/-! ### x < y of data -/
def notN : PyData → Bool
  | .none => false
  | _ => true
def ltX (x y : D) : M D := fun S => match pyS S x, pyS S y with
  | some p, some q => if PySem.W.alike p q = true ∧ notN p = true ∧ p.depth ≤ 60 then .ok (.bl (PySem.W.dataLt p q)) S else .bad
  | _, _ => .bad
end
end DL
namespace DL
open PySem PySem.Spec PyProof.Rows L2
open SeqAt (shaped)
/-! ### a tuple once, no times -/
def rRep01 (K : PySem.W.Frag) : R2 := fun x y H Q => ∃ l k xs, x = .ref l ∧ y = .int k ∧ SqT K H l xs ∧ xs ≠ [] ∧ ((k = 1 ∧ Q (.ref l) H) ∨ (k = 0 ∧ ∀ p, H p = none → Q (.ref p) (upd H p (.tup []))))
section
variable {X : Cx} {W : WE}
/-- text and tuple times: mul2D, also tuples once and no times -/
noncomputable def mulT (x y : D) : M D := fun S => match x, y with
  | .tup (d :: l), .int k => if k = 1 then .ok (.tup (d :: l)) S else if k = 0 then .ok (.tup []) S else mul2D (.tup (d :: l)) (.int k) S
  | x, y => mul2D x y S
end
/-! ### a, b, .. = a tuple or a list -/
def tgSeq (gs : List (D → Frame → M Frame)) : D → Frame → M Frame := fun d fr S => match seqL S d with
  | some l => if l.length = gs.length then tgAll gs l fr S else .bad
  | none => .bad
section
variable {X : Cx} {W : WE} {pos : Pos}
end
/-! ### names that are given comprehensions -/
section
variable {X : Cx} {W : WE} {elt tg iter : Expr} {pos : Pos} {ifs : List Expr} {scope : Scope} {own : List (Str × Nat)} {ts : List Nat} {g : D → Frame → M Frame} {ft : Frame → M Bool} {fe : Frame → M D} {fi : Frame → M Src} {N : List Str} {sc : Scope} {bb : Option Scope} {k i : Nat} {x : Str}
end
end DL
namespace DL
open PySem PySem.Spec PyProof.Rows L2
section
variable {X : Cx} {W : WE} {elt : Expr} {pos ap cp p tp : Pos} {ifs : List Expr} {scope : Scope} {ts : List Nat} {g : D → Frame → M Frame} {ft : Frame → M Bool} {fe : Frame → M D} {N : List Str} {sc : Scope} {bb : Option Scope} {k i : Nat} {x : Str} {elts : List Expr} {kk : Nat}
end
end DL
namespace DL
open PySem PySem.Spec PyProof.Rows L2
/-! ### xs + ys, an object -/
def addO (x y : D) : M D := fun S => match lstL S x, lstL S y with
  | some l, some m => if l.length + m.length ≤ sizeLine then newO (.lst (l ++ m)) S else .bad
  | _, _ => .bad
section
variable {X : Cx} {W : WE}
end
end DL
namespace DL
/-! ### polynomials, in plain Lean: lists of powers and factors -/
abbrev Pw := List Int
abbrev Pol := List (Pw × Int)
namespace Pl
/-- the sum of the factors, each times what its powers come to -/
def lin : Pol → (Pw → Int) → Int
  | [], _ => 0
  | (k, c) :: r, f => c * f k + lin r f
def nm : Pol → Nat
  | [] => 0
  | (_, c) :: r => c.natAbs + nm r
/-! ### in order -/
def Asc (p : Pol) : Prop := p.Pairwise fun a b => a.1 < b.1
/-- a polynomial in many unknowns, as the program keeps it -/
structure Cn (many : Nat) (p : Pol) : Prop where
  asc : Asc p
  len : ∀ x ∈ p, x.1.length = many
  pos : ∀ x ∈ p, ∀ i ∈ x.1, 0 ≤ i
  nz : ∀ x ∈ p, x.2 ≠ 0
def at_ (k : Pw) : Pw → Int := fun j => if j = k then 1 else 0
/-! ### a table of factors -/
def get (l : Pol) (k : Pw) : Option Int := (l.find? fun x => decide (x.1 = k)).map (·.2)
def put (l : Pol) (k : Pw) (c : Int) : Pol := if (l.any fun x => decide (x.1 = k)) = true then l.map (fun x => if x.1 = k then (x.1, c) else x) else l ++ [(k, c)]
def add1 (l : Pol) (k : Pw) (c : Int) : Pol := put l k ((get l k).getD 0 + c)
abbrev Nd (l : Pol) : Prop := (l.map (·.1)).Nodup
end Pl
end DL
namespace DL
open PySem PySem.Spec PyProof.Rows L2
/-! ### the plain laws: how a mirror is worked out -/
def rb {α β : Type} (r : R α) (f : α → Store → R β) : R β := match r with
  | .ok a S => f a S
  | .err x S => .err x S
  | .bad => .bad
def sS (r : RS) (g : SM) : RS := match r with
  | .ok .nx fr S => g fr S
  | q => q
section
variable {α β : Type} {fr fr' : Frame} {S S' : Store} {i : Nat} {d : D}
@[simp] theorem rb_ok {a : α} {f : α → Store → R β} : rb (.ok a S) f = f a S := (rfl)
@[simp] theorem rb_err {x : Exc} {f : α → Store → R β} : rb (.err x S) f = .err x S := (rfl)
@[simp] theorem sS_nx {g : SM} : sS (.ok .nx fr S) g = g fr S := (rfl)
@[simp] theorem sS_rt {g : SM} : sS (.ok (.rt d) fr S) g = .ok (.rt d) fr S := (rfl)
@[simp] theorem sS_bk {g : SM} : sS (.ok .bk fr S) g = .ok .bk fr S := (rfl)
@[simp] theorem sS_ct {g : SM} : sS (.ok .ct fr S) g = .ok .ct fr S := (rfl)
@[simp] theorem sS_err {x : Exc} {g : SM} : sS (.err x fr S) g = .err x fr S := (rfl)
@[simp] theorem exS_err {x : Exc} {k : α → Store → RS} : exS (.err x S) fr k = .err x fr S := (rfl)
theorem bnd_run {m : M α} {f : α → M β} : bnd m f S = rb (m S) f := by unfold bnd rb; cases m S <;> rfl
@[simp] theorem seqS_run {f g : SM} : seqS f g fr S = sS (f fr S) g := by unfold seqS sS; cases f fr S with | ok fl _ _ => cases fl <;> rfl | _ => rfl
@[simp] theorem asgF_run {f : Frame → M D} : asgF i f fr S = exS (f fr S) fr fun d S' => .ok .nx (fr.set i (some d)) S' := (rfl)
@[simp] theorem retF_run {f : Frame → M D} : retF f fr S = exS (f fr S) fr fun d S' => .ok (.rt d) fr S' := (rfl)
@[simp] theorem exprF_run {f : Frame → M D} : exprF f fr S = exS (f fr S) fr fun _ S' => .ok .nx fr S' := (rfl)
@[simp] theorem ifS_run {c : Frame → M Bool} {f g : SM} : ifS c f g fr S = exS (c fr S) fr fun b S' => if b = true then f fr S' else g fr S' := by
  unfold ifS
  refine congrArg (exS (c fr S) fr) (funext fun b => funext fun S' => ?_)
  cases b <;> rfl
@[simp] theorem asgG_run {g : D → Frame → M Frame} {f : Frame → M D} : asgG g f fr S = exS (f fr S) fr fun d S1 => match g d fr S1 with
  | .ok fr' S' => .ok .nx fr' S'
  | _ => .bad := (rfl)
@[simp] theorem parF_run {is : List Nat} {fs : List (Frame → M D)} : parF is fs fr S = exS (seqA fs fr S) fr fun l S' => .ok .nx (setAll fr is l) S' := (rfl)
@[simp] theorem augF_run {g : D → D → M D} {f : Frame → M D} : augF i g f fr S = match fr[i]? with
  | some (some x) => exS (f fr S) fr fun y S1 => exS (g x y S1) fr fun z S2 => .ok .nx (fr.set i (some z)) S2
  | _ => .bad := (rfl)
@[simp] theorem varF_run : varF i fr S = match fr[i]? with
  | some (some d) => .ok d S
  | _ => .bad := (rfl)
@[simp] theorem cstF_run : cstF d fr S = .ok d S := (rfl)
@[simp] theorem binF_run {g : D → D → M D} {f h : Frame → M D} : binF g f h fr S = rb (f fr S) fun x S1 => rb (h fr S1) fun y S2 => g x y S2 := (rfl)
@[simp] theorem unF_run {g : D → M D} {f : Frame → M D} : unF g f fr S = rb (f fr S) g := bnd_run
@[simp] theorem calF_run {g : List D → M D} {fs : List (Frame → M D)} : calF g fs fr S = rb (seqA fs fr S) g := bnd_run
@[simp] theorem seqA_nil : seqA [] fr S = .ok [] S := (rfl)
@[simp] theorem seqA_cons {f : Frame → M D} {fs : List (Frame → M D)} : seqA (f :: fs) fr S = rb (f fr S) fun x S1 => rb (seqA fs fr S1) fun xs S2 => .ok (x :: xs) S2 := by
  rfl
@[simp] theorem tupF_run {fs : List (Frame → M D)} : tupF fs fr S = rb (seqA fs fr S) fun l S' => .ok (.tup l) S' := bnd_run
@[simp] theorem lstF_run {fs : List (Frame → M D)} : lstF fs fr S = rb (seqA fs fr S) fun l S' => .ok (.lst l) S' := bnd_run
@[simp] theorem lstO_run {fs : List (Frame → M D)} : lstO fs fr S = rb (seqA fs fr S) fun l S' => .ok (.ob S'.length) (S' ++ [some (.lst l)]) := bnd_run
@[simp] theorem tbF_run {f : Frame → M D} : tbF f fr S = rb (f fr S) tsb := bnd_run
@[simp] theorem tstF_run {f : Frame → M D} : tstF f fr S = rb (f fr S) truF := bnd_run
@[simp] theorem notF_run {f : Frame → M Bool} : notF f fr S = rb (f fr S) fun b S' => .ok (!b) S' := bnd_run
@[simp] theorem andF_run {f g : Frame → M Bool} : andF f g fr S = rb (f fr S) fun b S' => if b = true then g fr S' else .ok false S' := by
  unfold andF
  rw [bnd_run]
  refine congrArg (rb _) (funext fun b => funext fun S' => ?_)
  cases b <;> rfl
@[simp] theorem orF_run {f g : Frame → M Bool} : orF f g fr S = rb (f fr S) fun b S' => if b = true then .ok true S' else g fr S' := by
  unfold orF
  rw [bnd_run]
  refine congrArg (rb _) (funext fun b => funext fun S' => ?_)
  cases b <;> rfl
@[simp] theorem iteF_run {c : Frame → M Bool} {f g : Frame → M D} : iteF c f g fr S = rb (c fr S) fun b S' => if b = true then f fr S' else g fr S' := by
  unfold iteF
  rw [bnd_run]
  refine congrArg (rb _) (funext fun b => funext fun S' => ?_)
  cases b <;> rfl
@[simp] theorem metF_run {T : String} {g : D → List D → M D} {f : Frame → M D} {fs : List (Frame → M D)} : metF T g f fs fr S = rb (f fr S) fun o S1 => if tyR S1 T o = true then rb (seqA fs fr S1) fun xs S2 => g o xs S2 else .bad := by
  unfold metF
  rw [bnd_run]
  refine congrArg (rb _) (funext fun o => funext fun S1 => ?_)
  rw [bnd_run]
  unfold tyCk
  by_cases h : tyR S1 T o = true
  · rw [if_pos h, if_pos h]; rfl
  · rw [if_neg h, if_neg h]; rfl
@[simp] theorem tsb_bl {b : Bool} : tsb (.bl b) S = .ok b S := (rfl)
@[simp] theorem yesF_run : yesF fr S = .ok true S := (rfl)
@[simp] theorem sliD_run {f : Frame → M D} {g : D → Option Int → Option Int → M D} {lo hi : Option (Frame → M D)} : sliF g f lo hi fr S = rb (f fr S) fun x S1 => rb (prtF lo fr S1) fun l S2 => rb (prtF hi fr S2) fun h S3 => g x l h S3 := (rfl)
@[simp] theorem prt_none : prtF none fr S = .ok none S := (rfl)
@[simp] theorem prt_some {f : Frame → M D} : prtF (some f) fr S = rb (f fr S) fun x S1 => match x with
  | .int i => .ok (some i) S1
  | _ => .bad := by
  rfl
@[simp] theorem tgName_run : tgName i d fr S = .ok (fr.set i (some d)) S := (rfl)
@[simp] theorem tgAll_nil : tgAll [] [] fr S = .ok fr S := (rfl)
@[simp] theorem tgAll_cons {g : D → Frame → M Frame} {gs : List (D → Frame → M Frame)} {ds : List D} : tgAll (g :: gs) (d :: ds) fr S = rb (g d fr S) fun fr1 S1 => tgAll gs ds fr1 S1 := bnd_run
@[simp] theorem tgTup_run {gs : List (D → Frame → M Frame)} {l : List D} (h : l.length = gs.length) : tgTup gs (.tup l) fr S = tgAll gs l fr S := by unfold tgTup; simp only [h]; rfl
@[simp] theorem tgSub_run {fo fi : Frame → M D} : tgSub fo fi d fr S = rb (nox (fo fr) S) fun o S1 => rb (nox (fi fr) S1) fun i S2 => rb (setD o i d S2) fun _ S3 => .ok fr S3 := (rfl)

end
section
variable {S : Store} {i j : Int} {a b : Str} {n : Nat} {l : List D}
@[simp] theorem add_int : addD (.int i) (.int j) S = .ok (.int (i + j)) S := (rfl)
@[simp] theorem sub_int : subD (.int i) (.int j) S = .ok (.int (i - j)) S := (rfl)
@[simp] theorem neg_int : negD (.int i) S = .ok (.int (-i)) S := (rfl)
@[simp] theorem iadd_int' : iaddD (.int i) (.int j) S = .ok (.int (i + j)) S := (rfl)
@[simp] theorem isub_int' : isubD (.int i) (.int j) S = .ok (.int (i - j)) S := (rfl)
@[simp] theorem lt_int : ltD (.int i) (.int j) S = .ok (.bl (decide (i < j))) S := (rfl)
@[simp] theorem le_int : leD (.int i) (.int j) S = .ok (.bl (decide (i ≤ j))) S := (rfl)
@[simp] theorem gt_int : gtD (.int i) (.int j) S = .ok (.bl (decide (j < i))) S := (rfl)
@[simp] theorem ge_int : geD (.int i) (.int j) S = .ok (.bl (decide (j ≤ i))) S := (rfl)
theorem mod_int (h : 0 < j) : modD (.int i) (.int j) S = .ok (.int (i % j)) S := by unfold modD; simp [h]
theorem mul_int' (h : CMulW i j) : mulD (.int i) (.int j) S = .ok (.int (i * j)) S := by unfold mulD; simp [h]
theorem fdiv_int (h : CDivW i j) : fdivD (.int i) (.int j) S = .ok (.int (i / j)) S := by unfold fdivD; simp [h]
theorem pow_int (h0 : 0 ≤ j) (h1 : j ≤ 1000000) (h2 : i.natAbs < 2 ^ 64) : powD (.int i) (.int j) S = .ok (.int (i ^ j.toNat)) S := by unfold powD; simp [h0, h1, h2]
@[simp] theorem int_int : intD [.int i] S = .ok (.int i) S := (rfl)
@[simp] theorem int_bl {b : Bool} : intD [.bl b] S = .ok (.int (if b then 1 else 0)) S := (rfl)
@[simp] theorem str_str : strD [.str a] S = .ok (.str a) S := (rfl)
@[simp] theorem max2_int : max2D [.int i, .int j] S = .ok (.int (if j > i then j else i)) S := (rfl)
@[simp] theorem min2_int : min2D [.int i, .int j] S = .ok (.int (if j < i then j else i)) S := (rfl)
@[simp] theorem seqL_tup : seqL S (.tup l) = some l := (rfl)
@[simp] theorem seqL_lst : seqL S (.lst l) = some l := (rfl)
@[simp] theorem lstL_lst : lstL S (.lst l) = some l := (rfl)
theorem lstL_ob (h : S[n]? = some (some (.lst l))) : lstL S (.ob n) = some l := by show oLst S[n]? = some l; rw [h]; rfl
theorem seqL_ob (h : S[n]? = some (some (.lst l))) : seqL S (.ob n) = some l := lstL_ob h
theorem ix_ob (h : S[n]? = some (some (.lst l))) {d : D} (e : atI l i = some d) : ixD (.ob n) (.int i) S = .ok d S := by
  unfold ixD
  simp only [seqL_ob h, e]
theorem ix_tup {d : D} (e : atI l i = some d) : ixD (.tup l) (.int i) S = .ok d S := by unfold ixD; simp only [seqL_tup, e]
theorem ix_lst {d : D} (e : atI l i = some d) : ixD (.lst l) (.int i) S = .ok d S := by unfold ixD; simp only [seqL_lst, e]
theorem len_ob (h : S[n]? = some (some (.lst l))) : lenD [.ob n] S = .ok (.int l.length) S := by unfold lenD; simp only [seqL_ob h]
@[simp] theorem len_tup : lenD [.tup l] S = .ok (.int l.length) S := (rfl)
@[simp] theorem len_lst : lenD [.lst l] S = .ok (.int l.length) S := (rfl)
@[simp] theorem tuple_tup : tupleD [.tup l] S = .ok (.tup l) S := (rfl)
@[simp] theorem tuple_lst : tupleD [.lst l] S = .ok (.tup l) S := (rfl)
theorem set_ob (h : S[n]? = some (some (.lst l))) {d : D} {k : Nat} (e : ixN l.length i = some k) : setD (.ob n) (.int i) d S = .ok () (S.set n (some (.lst (l.set k d)))) := by
  unfold setD
  simp only [h, oLst, e]
theorem app_ob (h : S[n]? = some (some (.lst l))) {d : D} (z : l.length < sizeLine) : appD (.ob n) [d] S = .ok .non (S.set n (some (.lst (l ++ [d])))) := by
  unfold appD
  simp only [h, oLst, if_pos z]
theorem nox_ok {α : Type} {m : M α} {a : α} {S S' : Store} (h : m S = .ok a S') : nox m S = .ok a S' := by unfold nox; rw [h]
def rN {α : Type} : R α → R α
  | .err _ _ => .bad
  | r => r
@[simp] theorem nox_rN {α : Type} {m : M α} {S : Store} : nox m S = rN (m S) := by unfold nox rN; cases m S <;> rfl
@[simp] theorem rN_ok {α : Type} {a : α} {S : Store} : rN (.ok a S) = .ok a S := (rfl)
/-! ### the state: what is kept, the deck -/
/-- all but n, m are kept -/
def Keep (n m : Nat) (S S' : Store) : Prop := S.length ≤ S'.length ∧ ∀ i, i < S.length → i ≠ n → i ≠ m → S'[i]? = S[i]?
theorem Keep.refl {n m : Nat} {S : Store} : Keep n m S S := ⟨Nat.le_refl _, fun _ _ _ _ => rfl⟩
theorem Keep.trans {n m : Nat} {S S1 S2 : Store} (a : Keep n m S S1) (b : Keep n m S1 S2) : Keep n m S S2 :=
  ⟨Nat.le_trans a.1 b.1, fun i h h1 h2 => (b.2 i (Nat.lt_of_lt_of_le h a.1) h1 h2).trans (a.2 i h h1 h2)⟩
theorem Keep.set {n m k : Nat} {S S' : Store} {o : Option O} (a : Keep n m S S') (hk : S.length ≤ k ∨ k = n ∨ k = m) : Keep n m S (S'.set k o) :=
  ⟨by rw [List.length_set]; exact a.1, fun i h h1 h2 => by
    rw [List.getElem?_set_ne (by rcases hk with hk | hk | hk <;> omega)]
    exact a.2 i h h1 h2⟩
/-- the deck at n, its cells at m, with b drawings left -/
structure Dk (n m b : Nat) (S : Store) : Prop where
  ne : n ≠ m
  ex : ∃ (cells : List Int) (k : Int), S[n]? = some (some (.lst [.ob m, .int k])) ∧ S[m]? = some (some (.lst (cells.map .int))) ∧ (∀ c ∈ cells, 0 ≤ c) ∧ 0 ≤ k ∧ k + b ≤ 2 ^ 40
theorem Dk.mono {n m b c : Nat} {S : Store} (h : Dk n m b S) (hc : c ≤ b) : Dk n m c S := by
  obtain ⟨ne, cells, k, h1, h2, h3, h4, h5⟩ := h
  exact ⟨ne, cells, k, h1, h2, h3, h4, by omega⟩
theorem Dk.keep {n m b : Nat} {S S' : Store} (h : Dk n m b S) (e1 : S'[n]? = S[n]?) (e2 : S'[m]? = S[m]?) : Dk n m b S' := by
  obtain ⟨ne, cells, k, h1, h2, h3, h4, h5⟩ := h
  exact ⟨ne, cells, k, e1.trans h1, e2.trans h2, h3, h4, h5⟩
theorem Dk.lt {n m b : Nat} {S : Store} (h : Dk n m b S) : n < S.length ∧ m < S.length := by
  obtain ⟨ne, cells, k, h1, h2, _⟩ := h
  exact ⟨(List.getElem?_eq_some_iff.mp h1).1, (List.getElem?_eq_some_iff.mp h2).1⟩
/-- a computation that draws at most c times -/
def Rn {α : Type} (n m c : Nat) (f : M α) (P : α → Prop) : Prop := ∀ b S, Dk n m (b + c) S → ∃ a S', f S = .ok a S' ∧ P a ∧ Dk n m b S' ∧ Keep n m S S'
/-! ### drawing -/
noncomputable def drawB : SM := seqS (asgG (tgSub (varF 0) (cstF (.int 1))) (binF addD (binF ixD (varF 0) (cstF (.int 1))) (cstF (.int 1)))) (seqS (asgG (tgTup [tgName 2, tgName 3]) (tupF [cstF (.int 0), unF negD (cstF (.int 1))])) (seqS (ifS (tbF (binF gtD (calF lenD [binF ixD (varF 0) (cstF (.int 0))]) (cstF (.int 0)))) (seqS (asgF 3 (binF modD (calF intD [binF ixD (varF 0) (cstF (.int 1))]) (calF lenD [binF ixD (varF 0) (cstF (.int 0))]))) (asgF 2 (binF ixD (binF ixD (varF 0) (cstF (.int 0))) (varF 3)))) (nxF)) (seqS (ifS (tbF (binF geD (varF 2) (binF powD (cstF (.int 10)) (cstF (.int 18))))) (seqS (asgG (tgSub (binF ixD (varF 0) (cstF (.int 0))) (varF 3)) (binF fdivD (calF intD [varF 2]) (varF 1))) (retF (binF modD (calF intD [varF 2]) (varF 1)))) (nxF)) (seqS (asgF 4 (binF addD (binF addD (binF modD (calF intD [varF 2]) (cstF (.int 2147483549))) (binF mulD (cstF (.int 11209)) (binF ixD (varF 0) (cstF (.int 1))))) (cstF (.int 5)))) (retF (binF modD (calF intD [binF modD (calF intD [binF powD (varF 4) (cstF (.int 5))]) (cstF (.int 2147483587))]) (varF 1)))))))
theorem def_rt {N : Nat} {f : SM} {ds : List D} {S S' : Store} {fr : Frame} {d : D} (h : f (frame0 N ds) S = .ok (.rt d) fr S') : defF N f ds S = .ok d S' := by
  unfold defF
  refine nox_ok ?_
  unfold bodyF
  rw [h]
  rfl
theorem atI_nat {α : Type} {x : α} {l : List α} {i : Int} {k : Nat} (hi : i = k) (h : l[k]? = some x) : atI l i = some x := by
  have := (List.getElem?_eq_some_iff.mp h).1
  have e : ixN l.length i = some k := by
    unfold ixN
    subst hi
    simp [this]
  unfold atI
  rw [e]
  exact h
theorem ixN_nat {n k : Nat} {i : Int} (hi : i = k) (h : k < n) : ixN n i = some k := by
  unfold ixN
  subst hi
  simp [h]
theorem atI_0 {α : Type} {x : α} {l : List α} : atI (x :: l) 0 = some x := atI_nat (k := 0) rfl rfl
theorem atI_1 {α : Type} {x y : α} {l : List α} : atI (x :: y :: l) 1 = some y := atI_nat (k := 1) rfl rfl
theorem draw_run {n m : Nat} {many : Int} (h0 : 0 < many) (h1 : many < 2 ^ 40) : Rn n m 1 (defF 5 drawB [.ob n, .int many]) fun d => ∃ r : Int, d = .int r ∧ 0 ≤ r ∧ r < many := by
  rintro b S ⟨ne, cells, k, e1, e2, h3, h4, h5⟩
  have f0 : frame0 5 [D.ob n, .int many] = [some (.ob n), some (.int many), none, none, none] := rfl
  have ln : n < S.length := (List.getElem?_eq_some_iff.mp e1).1
  have lm : m < S.length := (List.getElem?_eq_some_iff.mp e2).1
  -- the counter
  generalize hS1 : S.set n (some (.lst [.ob m, .int (k + 1)])) = S1
  have g1 : S1[n]? = some (some (.lst [.ob m, .int (k + 1)])) := by rw [← hS1]; exact List.getElem?_set_self ln
  have g2 : S1[m]? = some (some (.lst (cells.map .int))) := by rw [← hS1, List.getElem?_set_ne ne]; exact e2
  have k1 : Keep n m S S1 := by rw [← hS1]; exact Keep.refl.set (.inr (.inl rfl))
  have i0 : ixN ([D.ob m, .int k] : List D).length 1 = some 1 := rfl
  have d1 : Dk n m b S1 := ⟨ne, cells, k + 1, g1, g2, h3, by omega, by omega⟩
  have m10 : CMulW 11209 (k + 1) := wide_mul (a := 20) (b := 41) (by decide) (by omega) (by decide) (by decide) (by decide)
  have p18 : powD (.int 10) (.int 18) S1 = .ok (.int 1000000000000000000) S1 := pow_int (by decide) (by decide) (by decide)
  -- where no great cell is met
  have small : ∀ (cell : Int) (v : Option D), 0 ≤ cell → cell < 10 ^ 18 → ∃ r fr', sS (sS (.ok .nx [some (.ob n), some (.int many), some (.int cell), v, none] S1) (ifS (tbF (binF geD (varF 2) (binF powD (cstF (.int 10)) (cstF (.int 18))))) (seqS (asgG (tgSub (binF ixD (varF 0) (cstF (.int 0))) (varF 3)) (binF fdivD (calF intD [varF 2]) (varF 1))) (retF (binF modD (calF intD [varF 2]) (varF 1)))) (nxF)))
      (seqS (asgF 4 (binF addD (binF addD (binF modD (calF intD [varF 2]) (cstF (.int 2147483549))) (binF mulD (cstF (.int 11209)) (binF ixD (varF 0) (cstF (.int 1))))) (cstF (.int 5)))) (retF (binF modD (calF intD [binF modD (calF intD [binF powD (varF 4) (cstF (.int 5))]) (cstF (.int 2147483587))]) (varF 1)))) = .ok (.rt (.int r)) fr' S1 ∧ 0 ≤ r ∧ r < many := by
    intro cell v c0 c1
    have hc : ¬ (1000000000000000000 ≤ cell) := by omega
    have ha : 0 ≤ cell % 2147483549 + 11209 * (k + 1) + 5 := by omega
    have hb : cell % 2147483549 + 11209 * (k + 1) + 5 < 2 ^ 60 := by omega
    have pw : ∀ S : Store, powD (.int (cell % 2147483549 + 11209 * (k + 1) + 5)) (.int 5) S = .ok (.int ((cell % 2147483549 + 11209 * (k + 1) + 5) ^ 5)) S := fun S => pow_int (by decide) (by decide) (by omega)
    refine ⟨((cell % 2147483549 + 11209 * (k + 1) + 5) ^ 5 % 2147483587) % many, [some (.ob n), some (.int many), some (.int cell), v, some (.int (cell % 2147483549 + 11209 * (k + 1) + 5))], ?_, Int.emod_nonneg _ (by omega), Int.emod_lt_of_pos _ h0⟩
    simp [p18, hc, ix_ob g1 atI_1, mul_int' m10, mod_int, pw, h0, nxF]
  cases cells with
  | nil =>
    obtain ⟨r, fr', q1, q2, q3⟩ := small 0 (some (.int (-1))) (by decide) (by decide)
    refine ⟨.int r, S1, def_rt (fr := fr') ?_, ⟨r, rfl, q2, q3⟩, d1, k1⟩
    rw [f0, ← q1]
    simp [drawB, ix_ob e1 atI_1, ix_ob g1 atI_0, set_ob e1 i0, hS1, len_ob g2, nxF, tgTup]
  | cons c0 cr =>
    generalize hcs : c0 :: cr = cells at *
    have hl : 0 < cells.length := by rw [← hcs]; exact Nat.succ_pos _
    have hlen : (cells.map D.int).length = cells.length := List.length_map _
    have hpos : (0 : Int) < (cells.length : Int) := by omega
    obtain ⟨at_, hat⟩ : ∃ a : Nat, (k + 1) % (cells.length : Int) = a := ⟨((k + 1) % (cells.length : Int)).toNat, by have := Int.emod_nonneg (k + 1) (show (cells.length : Int) ≠ 0 by omega); omega⟩
    have hlt : at_ < cells.length := by have := Int.emod_lt_of_pos (k + 1) hpos; omega
    have hc : (cells.map D.int)[at_]? = some (.int cells[at_]) := by rw [List.getElem?_map, List.getElem?_eq_getElem hlt]; rfl
    have ixc : ixD (.ob m) (.int (k + 1) ) S1 = ixD (.ob m) (.int (k + 1)) S1 := rfl
    have ixa : ixD (.ob m) (.int (at_ : Nat)) S1 = .ok (.int cells[at_]) S1 := ix_ob g2 (atI_nat rfl hc)
    have nn : 0 ≤ cells[at_] := h3 _ (List.getElem_mem hlt)
    by_cases big : 1000000000000000000 ≤ cells[at_]
    · refine ⟨.int (cells[at_] % many), S1.set m (some (.lst ((cells.map D.int).set at_ (.int (cells[at_] / many))))), def_rt (fr := [some (.ob n), some (.int many), some (.int cells[at_]), some (.int (at_ : Nat)), none]) ?_, ⟨_, rfl, Int.emod_nonneg _ (by omega), Int.emod_lt_of_pos _ h0⟩, ?_, k1.set (.inr (.inr rfl))⟩
      · have dv : fdivD (.int cells[at_]) (.int many) S1 = .ok (.int (cells[at_] / many)) S1 := fdiv_int (wide_div (b := 41) h0 (by omega) (by decide) (by decide))
        rw [f0]
        simp [drawB, ix_ob e1 atI_1, ix_ob g1 atI_0, ix_ob g1 atI_1, set_ob e1 i0, hS1, len_ob g2, nxF, tgTup, hl, mod_int hpos, hat, ixa, p18, big, dv, set_ob g2 (ixN_nat rfl (by rw [hlen]; exact hlt)), mod_int h0]
      · refine ⟨ne, cells.set at_ (cells[at_] / many), k + 1, ?_, ?_, fun c hc => ?_, by omega, by omega⟩
        · rw [List.getElem?_set_ne (Ne.symm ne)]; exact g1
        · rw [List.getElem?_set_self (by rw [← hS1, List.length_set]; exact lm), List.map_set]
        · rcases List.mem_or_eq_of_mem_set hc with hc | hc
          · exact h3 c hc
          · rw [hc]; exact Int.ediv_nonneg nn (by omega)
    · obtain ⟨r, fr', q1, q2, q3⟩ := small cells[at_] (some (.int (at_ : Nat))) nn (by omega)
      refine ⟨.int r, S1, def_rt (fr := fr') ?_, ⟨r, rfl, q2, q3⟩, d1, k1⟩
      rw [f0, ← q1]
      simp [drawB, ix_ob e1 atI_1, ix_ob g1 atI_0, ix_ob g1 atI_1, set_ob e1 i0, hS1, len_ob g2, nxF, tgTup, hl, mod_int hpos, hat, ixa]
end
end DL
namespace DL
open PySem PySem.Spec PyProof.Rows L2
/-! ### loops over what does not change -/
def loopL (g : D → Frame → M Frame) (body : SM) : List D → SM
  | [], fr, S => .ok .nx fr S
  | x :: r, fr, S => match g x fr S with
    | .ok fr1 S1 => (match body fr1 S1 with
      | .ok .nx fr2 S2 => loopL g body r fr2 S2
      | .ok .ct fr2 S2 => loopL g body r fr2 S2
      | .ok .bk fr2 S2 => .ok .nx fr2 S2
      | q => q)
    | _ => .bad
def mapS (h : D → M D) : List D → M (List D)
  | [] => ret []
  | x :: r => bnd (h x) fun y => bnd (mapS h r) fun ys => ret (y :: ys)
def itL (g : D → Frame → M Frame) (t : Frame → M Bool) (elt : Frame → M D) (fr : Frame) : List D → M (List D)
  | [] => ret []
  | x :: r => bnd (g x fr) fun fr1 => bnd (t fr1) fun b => if b = true then bnd (elt fr1) fun y => bnd (itL g t elt fr r) fun ys => ret (y :: ys) else itL g t elt fr r
section
variable {n m : Nat} {S S' S1 : Store} {fr : Frame} {src : Src} {xs : List D} {f : Frame → M Src} {g : D → Frame → M Frame} {body : SM} {j : Nat} {t : Frame → M Bool} {elt : Frame → M D}
theorem forL_const (hsrc : ∀ S, src S = some xs) : ∀ (l : List D) (fr : Frame) (S : Store), forL src xs g body l fr S = loopL g body l fr S
  | [], fr, S => by unfold forL loopL; rw [if_pos (hsrc S)]
  | x :: r, fr, S => by
    unfold forL loopL
    rw [if_pos (hsrc S)]
    cases g x fr S with
    | ok fr1 S1 =>
      dsimp only
      cases body fr1 S1 with
      | ok fl fr2 S2 => cases fl <;> first | exact forL_const hsrc r fr2 S2 | rfl
      | err x fr2 S2 => rfl
      | bad => rfl
    | err x S1 => rfl
    | bad => rfl
theorem for_ok (hf : f fr S = .ok src S1) (hsrc : ∀ S, src S = some xs) : forF f g body fr S = loopL g body xs fr S1 := by
  unfold forF
  rw [hf, exS_ok, hsrc S1]
  exact forL_const hsrc xs fr S1
theorem it_lst {fe : Frame → M D} {l : List D} (h : fe fr S = .ok (.lst l) S1) : ∃ src, itF fe fr S = .ok src S1 ∧ ∀ S, src S = some l := by
  refine ⟨srcSeq (.lst l), ?_, fun _ => rfl⟩
  unfold itF
  rw [bnd_ok h]
  rfl
theorem rngL_get {lo : Int} {c i : Nat} {x : D} (h : (rngL lo c)[i]? = some x) : x = .int (lo + i) ∧ i < c := by
  unfold rngL at h
  rw [List.getElem?_map] at h
  by_cases hi : i < c
  · rw [List.getElem?_range hi] at h
    exact ⟨(Option.some.inj h).symm, hi⟩
  · rw [List.getElem?_eq_none (by simpa using hi)] at h
    cases h
/-! ### comprehensions over what does not change -/
theorem cmpL_ok (hsrc : ∀ S, src S = some xs) : ∀ (l : List D) (S : Store) (ys : List D) (S' : Store), itL g t elt fr l S = .ok ys S' → cmpL src xs g t elt fr l S = .ok ys S'
  | [], S, ys, S', h => by
    unfold cmpL
    rw [if_pos (hsrc S)]
    exact h
  | x :: r, S, ys, S', h => by
    unfold itL at h
    unfold cmpL
    rw [if_pos (hsrc S)]
    cases e1 : g x fr S with
    | ok fr1 S1 =>
      rw [bnd_ok e1] at h
      dsimp only
      cases e2 : t fr1 S1 with
      | ok b S2 =>
        rw [bnd_ok e2] at h
        cases b with
        | true =>
          rw [if_pos rfl] at h
          dsimp only
          cases e3 : elt fr1 S2 with
          | ok y S3 =>
            rw [bnd_ok e3] at h
            dsimp only
            cases e4 : itL g t elt fr r S3 with
            | ok zs S4 =>
              rw [bnd_ok e4] at h
              rw [bnd_ok (cmpL_ok hsrc r S3 zs S4 e4)]
              exact h
            | err x S4 => rw [bnd_err e4] at h; cases h
            | bad => rw [bnd_bad e4] at h; cases h
          | err x S3 => rw [bnd_err e3] at h; cases h
          | bad => rw [bnd_bad e3] at h; cases h
        | false =>
          rw [if_neg Bool.false_ne_true] at h
          exact cmpL_ok hsrc r S2 ys S' h
      | err x S2 => rw [bnd_err e2] at h; cases h
      | bad => rw [bnd_bad e2] at h; cases h
    | err x S1 => rw [bnd_err e1] at h; cases h
    | bad => rw [bnd_bad e1] at h; cases h
theorem itL_map : ∀ (l : List D), itL (tgName j) yesF elt fr l = mapS (fun x => elt (fr.set j (some x))) l
  | [] => rfl
  | x :: r => by
    unfold itL mapS
    rw [itL_map r]
    rfl
theorem cmpF_ok {vs : List Nat} {ys : List D} (hf : f fr S = .ok src S1) (hsrc : ∀ S, src S = some xs) (hlen : xs.length ≤ sizeLine) (h : itL g t elt (wipeF fr vs) xs S1 = .ok ys S') : cmpF vs f g t elt fr S = .ok ys S' := by
  unfold cmpF
  rw [bnd_ok hf]
  show (match src S1 with
    | some xs => if xs.length ≤ sizeLine then nox (cmpL src xs g t elt (wipeF fr vs) xs) S1 else .bad
    | none => .bad) = _
  rw [hsrc S1]
  exact (if_pos hlen).trans (nox_ok (cmpL_ok hsrc xs S1 ys S' h))
theorem cmpD_ok {vs : List Nat} {ys : List D} (hf : f fr S = .ok src S1) (hsrc : ∀ S, src S = some xs) (hlen : xs.length ≤ sizeLine) (h : itL g t elt (wipeF fr vs) xs S1 = .ok ys S') : cmpD vs f g t elt fr S = .ok (.lst ys) S' := by
  unfold cmpD
  rw [bnd_ok (cmpF_ok hf hsrc hlen h)]
  rfl
theorem cmpO_ok {vs : List Nat} {ys : List D} (hf : f fr S = .ok src S1) (hsrc : ∀ S, src S = some xs) (hlen : xs.length ≤ sizeLine) (h : itL g t elt (wipeF fr vs) xs S1 = .ok ys S') : cmpO vs f g t elt fr S = .ok (.ob S'.length) (S' ++ [some (.lst ys)]) := by
  unfold cmpO
  rw [bnd_ok (cmpF_ok hf hsrc hlen h)]
  rfl
theorem mapS_pure {h : D → M D} {φ : D → D} : ∀ (l : List D), (∀ x ∈ l, h x S = .ok (φ x) S) → mapS h l S = .ok (l.map φ) S
  | [], _ => rfl
  | x :: r, H => by
    unfold mapS
    rw [bnd_ok (H x List.mem_cons_self), bnd_ok (mapS_pure r fun y hy => H y (List.mem_cons_of_mem _ hy))]
    rfl
/-! ### the deck -/
noncomputable def deckB : SM := retF (lstO [cmpO [1] (itF (sliF sliD (varF 0) none (some (cstF (.int 63))))) (tgName 1) (yesF) (calF absD [varF 1]), cstF (.int 0)])
def absT : D → D
  | .int i => .int (if i < 0 then -i else i)
  | d => d
theorem cut_63 {l : List D} (h : l.length ≤ 63) : cutD l none (some 63) = l := by
  apply cut_whole
  unfold HT.sIx
  constructor
  · rfl
  · simp
    omega
theorem deck_run {ns : List Int} (h : ns.length ≤ 63) : ∃ S', defF 2 deckB [.lst (ns.map .int)] S = .ok (.ob (S.length + 1)) S' ∧ Dk (S.length + 1) S.length (2 ^ 40) S' ∧ S'.length = S.length + 2 ∧ ∀ i, i < S.length → S'[i]? = S[i]? := by
  have f0 : frame0 2 [D.lst (ns.map .int)] = [some (.lst (ns.map .int)), none] := rfl
  have hl : (ns.map D.int).length ≤ 63 := by simpa using h
  obtain ⟨src, e1, e2⟩ := it_lst (fr := [some (.lst (ns.map .int)), none]) (S := S) (S1 := S) (fe := sliF sliD (varF 0) none (some (cstF (.int 63)))) (l := ns.map .int) (by simp [sliD, cut_63 hl])
  have m1 := mapS_pure (S := S) (h := fun x => calF absD [varF 1] ((wipeF [some (.lst (ns.map .int)), none] [1]).set 1 (some x))) (φ := absT) (ns.map .int) (by
    intro x hx
    obtain ⟨i, _, rfl⟩ := List.mem_map.mp hx
    simp [wipeF, absD, absT])
  rw [← itL_map] at m1
  have c1 := cmpO_ok e1 e2 (by rw [sizeLine_eq]; omega) m1
  have hcl : (ns.map D.int).map absT = (ns.map fun i => if i < 0 then -i else i).map D.int := by simp [absT]
  rw [hcl] at c1
  refine ⟨(S ++ [some (.lst ((ns.map fun i => if i < 0 then -i else i).map D.int))]) ++ [some (.lst [.ob S.length, .int 0])], def_rt (fr := [some (.lst (ns.map .int)), none]) ?_, ?_, ?_, ?_⟩
  · rw [f0]
    unfold deckB
    simp only [retF_run, lstO_run, seqA_cons, c1, rb_ok, cstF_run, seqA_nil, exS_ok]
    simp
  · refine ⟨by omega, ns.map fun i => if i < 0 then -i else i, 0, ?_, ?_, fun c hc => ?_, Int.le_refl _, by decide⟩
    · rw [List.getElem?_append_right (by simp)]
      simp
    · rw [List.getElem?_append_left (by simp), List.getElem?_append_right (Nat.le_refl _)]
      simp
    · obtain ⟨i, _, rfl⟩ := List.mem_map.mp hc
      split <;> omega
  · simp
  · intro i hi
    rw [List.getElem?_append_left (by simp; omega), List.getElem?_append_left hi]
/-- items[draw(deck, len(items))] -/
theorem one_run {F : List D → M D} (hF : ∀ many : Int, 0 < many → many < 2 ^ 40 → Rn n m 1 (F [.ob n, .int many]) fun d => ∃ r : Int, d = .int r ∧ 0 ≤ r ∧ r < many) {d : D} {l : List D} (hd : d = .lst l ∨ d = .tup l) (h0 : l ≠ []) (h1 : l.length < 2 ^ 30) :
    Rn n m 1 (defF 2 (retF (binF ixD (varF 1) (calF (fun xs => F (xs ++ [])) [varF 0, calF lenD [varF 1]]))) [.ob n, d]) fun x => x ∈ l := by
  intro b S dk
  have hl : 0 < l.length := List.length_pos_iff.mpr h0
  obtain ⟨r, S', e, ⟨i, rfl, i0, i1⟩, dk', k'⟩ := hF l.length (by omega) (by omega) b S dk
  obtain ⟨k, rfl⟩ : ∃ k : Nat, i = k := ⟨i.toNat, by omega⟩
  have hk : k < l.length := by omega
  refine ⟨l[k], S', def_rt (fr := [some (.ob n), some d]) ?_, List.getElem_mem hk, dk', k'⟩
  have f0 : frame0 2 [D.ob n, d] = [some (.ob n), some d] := rfl
  have hx : ixD d (.int k) S' = .ok l[k] S' := by
    rcases hd with rfl | rfl
    · exact ix_lst (atI_nat rfl (List.getElem?_eq_getElem hk))
    · exact ix_tup (atI_nat rfl (List.getElem?_eq_getElem hk))
  have hlen : lenD [d] S = .ok (.int l.length) S := by rcases hd with rfl | rfl <;> rfl
  rw [f0]
  simp [hlen, e, hx]
end
end DL
namespace DL
open PySem PySem.Spec PyProof.Rows L2
open SeqAt (shaped)
/-! ### data: texts, ints -/
@[simp] theorem sh_int {a : Int} : shaped (.int a) = true := (rfl)
section
variable {S : Store} {a b : Str} {i j : Int} {n : Nat}
@[simp] theorem eq_str : eqD (.str a) (.str b) S = .ok (.bl (decide (a = b))) S := (rfl)
@[simp] theorem ne_str : neD (.str a) (.str b) S = .ok (.bl (!decide (a = b))) S := (rfl)
theorem beq_dec {α : Type} [DecidableEq α] {x y : α} : (x == y) = decide (x = y) := by
  rw [Bool.eq_iff_iff]
  simp
@[simp] theorem eq_int : eqD (.int i) (.int j) S = .ok (.bl (decide (i = j))) S := by
  show (if shaped (.int i) = true ∧ shaped (.int j) = true then R.ok (D.bl (i == j)) S else .bad) = _
  rw [if_pos ⟨rfl, rfl⟩, beq_dec]
@[simp] theorem ne_int : neD (.int i) (.int j) S = .ok (.bl (!decide (i = j))) S := by
  show (if shaped (.int i) = true ∧ shaped (.int j) = true then R.ok (D.bl (!(i == j))) S else .bad) = _
  rw [if_pos ⟨rfl, rfl⟩, beq_dec]
@[simp] theorem in_str : inD (.str a) (.str b) S = .ok (.bl (strIn a b)) S := (rfl)
@[simp] theorem nin_str : notInD (.str a) (.str b) S = .ok (.bl (!strIn a b)) S := (rfl)
theorem repr_ok {d : D} {p : PyData} (h : pyS S d = some p) (ok : reprOk p) : reprD [d] S = .ok (.str p.shown) S := by
  unfold reprD
  simp only [h, if_pos ok]
theorem str_int {i : Int} (h : i.natAbs.log2 < 1920) : strD [.int i] S = .ok (.str (toString i)) S := by
  unfold strD
  simp only [if_pos h]
end
end DL
namespace DL
open PySem PySem.Spec PyProof.Rows L2
open SeqAt (shaped)
section
variable {fr : Frame} {S S1 : Store} {f g f1 f2 f3 : Frame → M D} {d : D}
@[simp] theorem andV_run : andV f g fr S = rb (f fr S) fun x S1 => rb (tsb x S1) fun b S2 => if b = true then g fr S2 else .ok (.bl false) S2 := by
  unfold andV
  rw [bnd_run]
  refine congrArg (rb _) (funext fun x => funext fun S1 => ?_)
  rw [bnd_run]
  refine congrArg (rb _) (funext fun b => funext fun S' => ?_)
  cases b <;> rfl
@[simp] theorem orV_run : orV f g fr S = rb (f fr S) fun x S1 => rb (tsb x S1) fun b S2 => if b = true then .ok (.bl true) S2 else g fr S2 := by
  unfold orV
  rw [bnd_run]
  refine congrArg (rb _) (funext fun x => funext fun S1 => ?_)
  rw [bnd_run]
  refine congrArg (rb _) (funext fun b => funext fun S' => ?_)
  cases b <;> rfl
@[simp] theorem notV_run : notV f fr S = rb (f fr S) fun x S1 => rb (tsb x S1) fun b S2 => .ok (.bl !b) S2 := (rfl)
@[simp] theorem tru_bl {b : Bool} : truF (.bl b) S = .ok b S := (rfl)
theorem isi_known {T : String} {t : String} {b : Bool} (h1 : tyN S d = some t) (h2 : kitB t T = some b) : isiD T d S = .ok (.bl b) S := by
  unfold isiD
  rw [h1]
  simp only [Option.bind_some, h2]
@[simp] theorem isi_tt {l : List D} : isiD "tuple" (.tup l) S = .ok (.bl true) S := isi_known rfl (by decide +kernel)
@[simp] theorem isi_ti {i : Int} : isiD "tuple" (.int i) S = .ok (.bl false) S := isi_known rfl (by decide +kernel)
@[simp] theorem isi_ts {i : Str} : isiD "tuple" (.str i) S = .ok (.bl false) S := isi_known rfl (by decide +kernel)
@[simp] theorem isi_it {l : List D} : isiD "int" (.tup l) S = .ok (.bl false) S := isi_known rfl (by decide +kernel)
@[simp] theorem isi_ii {i : Int} : isiD "int" (.int i) S = .ok (.bl true) S := isi_known rfl (by decide +kernel)
@[simp] theorem isi_is {i : Str} : isiD "int" (.str i) S = .ok (.bl false) S := isi_known rfl (by decide +kernel)
@[simp] theorem isi_st {l : List D} : isiD "str" (.tup l) S = .ok (.bl false) S := isi_known rfl (by decide +kernel)
@[simp] theorem isi_si {i : Int} : isiD "str" (.int i) S = .ok (.bl false) S := isi_known rfl (by decide +kernel)
@[simp] theorem isi_ss {i : Str} : isiD "str" (.str i) S = .ok (.bl true) S := isi_known rfl (by decide +kernel)
@[simp] theorem ix0 {x : D} {l : List D} : ixD (.tup (x :: l)) (.int 0) S = .ok x S := ix_tup atI_0
@[simp] theorem ix1 {x y : D} {l : List D} : ixD (.tup (x :: y :: l)) (.int 1) S = .ok y S := ix_tup atI_1
@[simp] theorem ix2 {x y z : D} {l : List D} : ixD (.tup (x :: y :: z :: l)) (.int 2) S = .ok z S := ix_tup (atI_nat (k := 2) rfl rfl)
@[simp] theorem ix0l {x : D} {l : List D} : ixD (.lst (x :: l)) (.int 0) S = .ok x S := ix_lst atI_0
@[simp] theorem ix1l {x y : D} {l : List D} : ixD (.lst (x :: y :: l)) (.int 1) S = .ok y S := ix_lst atI_1
@[simp] theorem sorted_lst {ns : List Int} : sortedD [.lst (ns.map .int)] S = .ok (.lst ((sortI ns).map .int)) S := by
  unfold sortedD
  have : (oneL S [.lst (ns.map .int)]).bind intsL = some ns := by
    show intsL (ns.map .int) = some ns
    induction ns with
    | nil => rfl
    | cons a r ih => simp [intsL, ih]
  rw [this]
theorem it_str {fe : Frame → M D} {z : Str} (h : fe fr S = .ok (.str z) S1) : ∃ src, itS fe fr S = .ok src S1 ∧ ∀ S, src S = some (chars z) := by
  refine ⟨fun _ => some (chars z), ?_, fun _ => rfl⟩
  unfold itS
  rw [bnd_ok h]
theorem add_tup {l m : List D} (h : l.length + m.length ≤ sizeLine) : addD (.tup l) (.tup m) S = .ok (.tup (l ++ m)) S := by
  unfold addD
  simp only [if_pos h]
theorem cut_head {x : D} {l : List D} : DL.cutD (x :: l) none (some 1) = [x] := by
  unfold DL.cutD HT.sIx
  simp
end
/-! ### formulas -/
inductive Fm where
  | num (n : Nat) | lett (s : Str) | neg (f : Fm) | bin (op : Str) (f g : Fm)
  deriving DecidableEq
def Fm.d : Fm → D
  | .num n => .int n
  | .lett s => .str s
  | .neg f => .tup [.str "neg", f.d]
  | .bin op f g => .tup [.str op, f.d, g.d]
def OPS : List Str := ["+", "-", "*"]
def LETS : List Str := ["a", "b", "c", "d"]
def Fm.ok : Fm → Prop
  | .num n => n < 100
  | .lett s => s ∈ LETS
  | .neg f => f.ok
  | .bin op f g => op ∈ OPS ∧ f.ok ∧ g.ok
def Fm.ops : Fm → Nat
  | .num _ => 0
  | .lett _ => 0
  | .neg f => f.ops + 1
  | .bin _ f g => f.ops + g.ops + 1
def Fm.needs : Fm → Int
  | .num _ => 1
  | .lett _ => 1
  | .neg f => f.needs
  | .bin _ f g => if f.needs = g.needs then f.needs + 1 else if g.needs > f.needs then g.needs else f.needs
theorem ops_neg : ∀ op ∈ OPS, op ≠ ("neg" : Str) := by decide +kernel
noncomputable def needsB (self : List D → M D) : SM := seqS (ifS (notF (tstF (unF (isiD "tuple") (varF 0)))) (retF (cstF (.int 1))) (nxF)) (seqS (ifS (tbF (binF eqD (binF ixD (varF 0) (cstF (.int 0))) (cstF (.str "neg")))) (retF (calF (fun xs => self (xs ++ [])) [binF ixD (varF 0) (cstF (.int 1))])) (nxF)) (seqS (parF [1, 2] [calF (fun xs => self (xs ++ [])) [binF ixD (varF 0) (cstF (.int 1))], calF (fun xs => self (xs ++ [])) [binF ixD (varF 0) (cstF (.int 2))]]) (retF (iteF (tbF (binF eqD (varF 1) (varF 2))) (binF addD (varF 1) (cstF (.int 1))) (calF max2D [varF 1, varF 2])))))
theorem needs_run {F : Nat → List D → M D} (hF : ∀ k, F (k + 1) = defF 3 (needsB (F k))) : ∀ (f : Fm) (k : Nat) (S : Store), f.ok → f.ops < k → F k [f.d] S = .ok (.int f.needs) S
  | _, 0, _, _, h => absurd h (Nat.not_lt_zero _)
  | .num n, k + 1, S, _, _ => by
    rw [hF]
    refine def_rt (fr := [some (.int n), none, none]) ?_
    show needsB (F k) [some (.int n), none, none] S = _
    simp [needsB, Fm.needs]
  | .lett n, k + 1, S, _, _ => by
    rw [hF]
    refine def_rt (fr := [some (.str n), none, none]) ?_
    show needsB (F k) [some (.str n), none, none] S = _
    simp [needsB, Fm.needs]
  | .neg f, k + 1, S, ok, h => by
    rw [hF]
    have e := needs_run hF f k S ok (by simp only [Fm.ops] at h; omega)
    refine def_rt (fr := [some (.tup [.str "neg", f.d]), none, none]) ?_
    show needsB (F k) [some (.tup [.str "neg", f.d]), none, none] S = _
    simp [needsB, Fm.needs, e, nxF]
  | .bin op f g, k + 1, S, ok, h => by
    rw [hF]
    have e1 := needs_run hF f k S ok.2.1 (by simp only [Fm.ops] at h; omega)
    have e2 := needs_run hF g k S ok.2.2 (by simp only [Fm.ops] at h; omega)
    have hn := ops_neg op ok.1
    refine def_rt (fr := [some (.tup [.str op, f.d, g.d]), some (.int f.needs), some (.int g.needs)]) ?_
    show needsB (F k) [some (.tup [.str op, f.d, g.d]), none, none] S = _
    by_cases h1 : f.needs = g.needs
    · simp [needsB, Fm.needs, e1, e2, nxF, hn, h1, setAll]
    · simp [needsB, Fm.needs, e1, e2, nxF, hn, h1, setAll]
theorem ix_lastT {l : List D} {x : D} {S : Store} : ixD (.tup (l ++ [x])) (.int (-1)) S = .ok x S := by
  refine ix_tup ?_
  have e : ixN (l ++ [x]).length (-1) = some l.length := by
    unfold ixN
    rw [List.length_append, List.length_singleton, if_neg (by decide), if_pos (by omega)]
    congr 1
    omega
  unfold atI
  rw [e]
  simp
def digs (n : Nat) : List Str := (Str.ofString (toString (n : Int))).cps.toList.map fun c => ⟨#[c]⟩
def DIG : List Str := ["0", "1", "2", "3", "4", "5", "6", "7", "8", "9"]
theorem digs_ok : ∀ n : Nat, n < 100 → digs n ≠ [] ∧ (∀ x ∈ digs n, x ∈ DIG) ∧ (digs n).length ≤ 2 := by decide +kernel
theorem chars_num (n : Nat) : chars (Str.ofString (toString (n : Int))) = (digs n).map .str := by
  unfold chars digs
  rw [List.map_map]
  rfl
def isD (x : Str) : Bool := strIn x "0123456789"
def joinL (a b : List Str) : List Str := if isD (a.getLastD "") && isD (b.headD "") then a ++ [("enter" : Str)] ++ b else a ++ b
def Fm.row : Fm → List Str
  | .num n => digs n
  | .lett s => [s]
  | .neg f => f.row ++ [("neg" : Str)]
  | .bin op f g => if g.needs > f.needs then joinL g.row f.row ++ (if op = "-" then [("swap" : Str), "-"] else [op]) else joinL f.row g.row ++ [op]
theorem joinL_len {a b : List Str} : (joinL a b).length ≤ a.length + b.length + 1 := by
  unfold joinL
  split <;> simp <;> omega
theorem Fm.row_ne : ∀ f : Fm, f.ok → f.row ≠ []
  | .num n, h => (digs_ok n h).1
  | .lett s, _ => by simp [Fm.row]
  | .neg f, _ => by simp [Fm.row]
  | .bin op f g, _ => by
    unfold Fm.row
    split
    · rw [Ne, List.append_eq_nil_iff]
      rintro ⟨_, h2⟩
      split at h2 <;> cases h2
    · simp
theorem Fm.row_len : ∀ f : Fm, f.ok → f.row.length ≤ 5 * f.ops + 2
  | .num n, h => (digs_ok n h).2.2
  | .lett s, _ => by simp [Fm.row]
  | .neg f, h => by have := f.row_len h; simp [Fm.row, Fm.ops]; omega
  | .bin op f g, h => by
    have h1 := f.row_len h.2.1
    have h2 := g.row_len h.2.2
    have j1 := joinL_len (a := g.row) (b := f.row)
    have j2 := joinL_len (a := f.row) (b := g.row)
    unfold Fm.row
    simp only [Fm.ops]
    split
    · rw [List.length_append]
      split <;> simp <;> omega
    · rw [List.length_append]
      simp
      omega
theorem last_split {a : List Str} (h : a ≠ []) : ∃ a', a = a' ++ [a.getLastD ""] := by
  refine ⟨a.dropLast, ?_⟩
  rw [List.getLastD_eq_getLast?, List.getLast?_eq_some_getLast h]
  exact (List.dropLast_concat_getLast h).symm
theorem head_split {b : List Str} (h : b ≠ []) : ∃ b', b = b.headD "" :: b' := by
  cases b with
  | nil => exact absurd rfl h
  | cons x r => exact ⟨r, rfl⟩
noncomputable def joinedB : SM := seqS (asgF 2 (orV (binF notInD (binF ixD (varF 0) (unF negD (cstF (.int 1)))) (cstF (.str "0123456789"))) (binF notInD (binF ixD (varF 1) (cstF (.int 0))) (cstF (.str "0123456789"))))) (retF (iteF (tstF (varF 2)) (binF addD (varF 0) (varF 1)) (binF addD (binF addD (varF 0) (tupF [cstF (.str "enter")])) (varF 1))))
theorem joined_run {a b : List Str} (ha : a ≠ []) (hb : b ≠ []) (hl : a.length + b.length ≤ 1000) (S : Store) : defF 3 joinedB [.tup (a.map .str), .tup (b.map .str)] S = .ok (.tup ((joinL a b).map .str)) S := by
  obtain ⟨a', ea⟩ := last_split ha
  obtain ⟨b', eb⟩ := head_split hb
  have xa : ixD (.tup (a.map .str)) (.int (-1)) S = .ok (.str (a.getLastD "")) S := by
    rw [ea, List.map_append]
    have := ix_lastT (l := a'.map .str) (x := .str (a.getLastD "")) (S := S)
    rw [← ea]
    exact this
  have xb : ixD (.tup (b.map .str)) (.int 0) S = .ok (.str (b.headD "")) S := by
    conv => lhs; rw [eb]
    rw [List.map_cons]
    exact ix0
  have i1 : notInD (.str (a.getLastD "")) (.str "0123456789") S = .ok (.bl (!isD (a.getLastD ""))) S := rfl
  have i2 : notInD (.str (b.headD "")) (.str "0123456789") S = .ok (.bl (!isD (b.headD ""))) S := rfl
  have a1 : addD (.tup (a.map .str)) (.tup (b.map .str)) S = .ok (.tup ((a ++ b).map .str)) S := by rw [add_tup (by simp; rw [sizeLine_eq]; omega), List.map_append]
  have a2 : addD (.tup (a.map .str)) (.tup [.str "enter"]) S = .ok (.tup ((a ++ [("enter" : Str)]).map .str)) S := by rw [add_tup (by simp; rw [sizeLine_eq]; omega), List.map_append]; rfl
  have a3 : addD (.tup ((a ++ [("enter" : Str)]).map .str)) (.tup (b.map .str)) S = .ok (.tup ((a ++ [("enter" : Str)] ++ b).map .str)) S := by rw [add_tup (by simp; rw [sizeLine_eq]; omega), ← List.map_append]
  refine def_rt (fr := [some (.tup (a.map .str)), some (.tup (b.map .str)), some (.bl (!isD (a.getLastD "") || !isD (b.headD "")))]) ?_
  show joinedB [some (.tup (a.map .str)), some (.tup (b.map .str)), none] S = _
  clear ea eb
  unfold joinL
  generalize a.getLastD "" = la at *
  generalize b.headD "" = fb at *
  generalize isD la = x at i1 ⊢
  generalize isD fb = y at i2 ⊢
  unfold joinedB
  cases x <;> cases y <;> simp [xa, xb, i1, i2, a1, a2, a3, -DL.nin_str, -List.map_append, -List.append_assoc]
end DL
namespace DL
open PySem PySem.Spec PyProof.Rows L2
open SeqAt (shaped)
theorem log_small {n : Nat} (h : n < 128) : n.log2 < 1920 := PySem.Flt.log2_lt_of (by decide) (Nat.lt_of_lt_of_le (show n < 2 ^ 7 from h) (Nat.pow_le_pow_right (by decide) (by decide)))
theorem str_num {n : Nat} (h : n < 100) (S : Store) : strD [.int (n : Int)] S = .ok (.str (Str.ofString (toString (n : Int)))) S := str_int (log_small (show n < 128 by omega))
theorem chars_lett : ∀ x ∈ LETS, chars x = [.str x] := by
  intro x hx
  simp only [LETS, List.mem_cons, List.not_mem_nil, or_false] at hx
  rcases hx with rfl | rfl | rfl | rfl <;> rfl
noncomputable def plainB (nd jo self : List D → M D) : SM := seqS (ifS (tstF (unF (isiD "int") (varF 0))) (retF (calF tupleD [cmpD [3] (itS (calF strD [varF 0])) (tgName 3) (yesF) (varF 3)])) (nxF)) (seqS (ifS (tstF (unF (isiD "str") (varF 0))) (retF (tupF [varF 0])) (nxF)) (seqS (ifS (tbF (binF eqD (binF ixD (varF 0) (cstF (.int 0))) (cstF (.str "neg")))) (retF (binF addD (calF (fun xs => self (xs ++ [])) [binF ixD (varF 0) (cstF (.int 1))]) (tupF [cstF (.str "neg")]))) (nxF)) (seqS (parF [1, 2] [calF (fun xs => self (xs ++ [])) [binF ixD (varF 0) (cstF (.int 1))], calF (fun xs => self (xs ++ [])) [binF ixD (varF 0) (cstF (.int 2))]]) (seqS (ifS (tbF (binF gtD (calF (fun xs => nd (xs ++ [])) [binF ixD (varF 0) (cstF (.int 2))]) (calF (fun xs => nd (xs ++ [])) [binF ixD (varF 0) (cstF (.int 1))]))) (retF (binF addD (calF (fun xs => jo (xs ++ [])) [varF 2, varF 1]) (iteF (tbF (binF eqD (binF ixD (varF 0) (cstF (.int 0))) (cstF (.str "-")))) (tupF [cstF (.str "swap"), cstF (.str "-")]) (sliF sliD (varF 0) none (some (cstF (.int 1))))))) (nxF)) (retF (binF addD (calF (fun xs => jo (xs ++ [])) [varF 1, varF 2]) (sliF sliD (varF 0) none (some (cstF (.int 1))))))))))
theorem text_signs {fr : Frame} {S : Store} {z : Str} {fe : Frame → M D} {j : Nat} {l : List Str} (h : fe fr S = .ok (.str z) S) (hc : chars z = l.map .str) (hl : l.length ≤ 1000) (hj : j < fr.length) : cmpD [j] (itS fe) (tgName j) yesF (varF j) fr S = .ok (.lst (l.map .str)) S := by
  obtain ⟨src, e1, e2⟩ := it_str h
  have m := mapS_pure (S := S) (h := fun x => varF j ((wipeF fr [j]).set j (some x))) (φ := id) (chars z) (fun x _ => by
    rw [varF_run]
    have : ((wipeF fr [j]).set j (some x))[j]? = some (some x) := List.getElem?_set_self (by simp [wipeF, hj])
    rw [this]
    rfl)
  rw [← itL_map, List.map_id, hc] at m
  rw [hc] at e2
  exact cmpD_ok e1 e2 (by rw [List.length_map, sizeLine_eq]; omega) m
theorem plain_run {F : Nat → List D → M D} {nd jo : List D → M D} (hF : ∀ k, F (k + 1) = defF 4 (plainB nd jo (F k))) (hnd : ∀ (f : Fm) (S : Store), f.ok → f.ops < 20 → nd [f.d] S = .ok (.int f.needs) S)
    (hjo : ∀ (a b : List Str) (S : Store), a ≠ [] → b ≠ [] → a.length + b.length ≤ 1000 → jo [.tup (a.map .str), .tup (b.map .str)] S = .ok (.tup ((joinL a b).map .str)) S) :
    ∀ (f : Fm) (k : Nat) (S : Store), f.ok → f.ops < k → f.ops < 20 → F k [f.d] S = .ok (.tup (f.row.map .str)) S
  | _, 0, _, _, h, _ => absurd h (Nat.not_lt_zero _)
  | .num n, k + 1, S, ok, _, _ => by
    rw [hF]
    have t := text_signs (fr := [some (.int n), none, none, none]) (S := S) (fe := calF strD [varF 0]) (j := 3) (by simp [str_num ok]) (chars_num n) (by have := (digs_ok n ok).2.2; omega) (by simp)
    refine def_rt (fr := [some (.int n), none, none, none]) ?_
    show plainB _ _ (F k) [some (.int n), none, none, none] S = _
    simp [plainB, Fm.row, t]
  | .lett n, k + 1, S, _, _, _ => by
    rw [hF]
    refine def_rt (fr := [some (.str n), none, none, none]) ?_
    show plainB _ _ (F k) [some (.str n), none, none, none] S = _
    simp [plainB, Fm.row, nxF]
  | .neg f, k + 1, S, ok, h, h2 => by
    rw [hF]
    simp only [Fm.ops] at h h2
    have e := plain_run hF hnd hjo f k S ok (by omega) (by omega)
    have hl := f.row_len ok
    have a1 : addD (.tup (f.row.map .str)) (.tup [.str "neg"]) S = .ok (.tup ((f.row ++ [("neg" : Str)]).map .str)) S := by rw [add_tup (by simp; rw [sizeLine_eq]; omega), List.map_append]; rfl
    refine def_rt (fr := [some (.tup [.str "neg", f.d]), none, none, none]) ?_
    show plainB _ _ (F k) [some (.tup [.str "neg", f.d]), none, none, none] S = _
    simp [plainB, Fm.row, e, nxF, a1, -List.map_append]
  | .bin op f g, k + 1, S, ok, h, h2 => by
    rw [hF]
    simp only [Fm.ops] at h h2
    have e1 := plain_run hF hnd hjo f k S ok.2.1 (by omega) (by omega)
    have e2 := plain_run hF hnd hjo g k S ok.2.2 (by omega) (by omega)
    have l1 := f.row_len ok.2.1
    have l2 := g.row_len ok.2.2
    have n1 := hnd f S ok.2.1 (by omega)
    have n2 := hnd g S ok.2.2 (by omega)
    have j1 := hjo f.row g.row S (f.row_ne ok.2.1) (g.row_ne ok.2.2) (by omega)
    have j2 := hjo g.row f.row S (g.row_ne ok.2.2) (f.row_ne ok.2.1) (by omega)
    have k1 := joinL_len (a := f.row) (b := g.row)
    have k2 := joinL_len (a := g.row) (b := f.row)
    have hn := ops_neg op ok.1
    have ct : ∀ S : Store, sliD (.tup [.str op, f.d, g.d]) none (some 1) S = .ok (.tup [.str op]) S := fun S => by
      show R.ok (D.tup (DL.cutD [.str op, f.d, g.d] none (some 1))) S = _
      rw [cut_head]
    have add : ∀ (l m : List Str), l.length ≤ 400 → m.length ≤ 400 → addD (.tup (l.map .str)) (.tup (m.map .str)) S = .ok (.tup ((l ++ m).map .str)) S := fun l m h h' => by rw [add_tup (by simp; rw [sizeLine_eq]; omega), List.map_append]
    have a1 := add (joinL f.row g.row) [op] (by omega) (by simp)
    have a2 := add (joinL g.row f.row) [op] (by omega) (by simp)
    have a3 := add (joinL g.row f.row) [("swap" : Str), "-"] (by omega) (by simp)
    simp only [List.map_cons, List.map_nil] at a1 a2 a3
    refine def_rt (fr := [some (.tup [.str op, f.d, g.d]), some (.tup (f.row.map .str)), some (.tup (g.row.map .str)), none]) ?_
    show plainB _ _ (F k) [some (.tup [.str op, f.d, g.d]), none, none, none] S = _
    by_cases c1 : f.needs < g.needs
    · by_cases c2 : op = "-"
      · subst c2
        simp [plainB, Fm.row, e1, e2, n1, n2, nxF, hn, c1, setAll, j2, a3, -List.map_append]
      · simp [plainB, Fm.row, e1, e2, n1, n2, nxF, hn, c1, c2, setAll, j2, a2, ct, -List.map_append]
    · simp [plainB, Fm.row, e1, e2, n1, n2, nxF, hn, c1, setAll, j1, a1, ct, -List.map_append]
end DL
namespace DL
open PySem PySem.Spec PyProof.Rows L2
open SeqAt (shaped)
/-! ### the other deck -/
structure Dk2 (n m b : Nat) (S : Store) : Prop where
  ne : n ≠ m
  ex : ∃ (cells base : List Int) (k : Int), S[n]? = some (some (.lst [.ob m, .lst (base.map .int), .int k])) ∧ S[m]? = some (some (.lst (cells.map .int))) ∧ (∀ c ∈ cells, 0 ≤ c) ∧ base ≠ [] ∧ 0 ≤ k ∧ k + b ≤ 2 ^ 40
def Rn2 {α : Type} (n m c : Nat) (f : M α) (P : α → Prop) : Prop := ∀ b S, Dk2 n m (b + c) S → ∃ a S', f S = .ok a S' ∧ P a ∧ Dk2 n m b S' ∧ Keep n m S S'
noncomputable def draw2B : SM := seqS (ifS (tbF (binF neD (binF ixD (varF 0) (cstF (.int 0))) (lstF []))) (seqS (asgF 2 (binF ixD (binF ixD (varF 0) (cstF (.int 0))) (cstF (.int 0)))) (seqS (asgG (tgSub (binF ixD (varF 0) (cstF (.int 0))) (cstF (.int 0))) (binF fdivD (varF 2) (varF 1))) (seqS (ifS (tbF (binF eqD (binF ixD (binF ixD (varF 0) (cstF (.int 0))) (cstF (.int 0))) (cstF (.int 0)))) (exprF (metF "list" popD (binF ixD (varF 0) (cstF (.int 0))) [cstF (.int 0)])) (nxF)) (retF (binF modD (calF intD [varF 2]) (varF 1)))))) (nxF)) (seqS (asgG (tgSub (varF 0) (cstF (.int 2))) (binF addD (binF ixD (varF 0) (cstF (.int 2))) (cstF (.int 1)))) (seqS (asgF 3 (binF ixD (binF ixD (varF 0) (cstF (.int 1))) (binF modD (calF intD [binF ixD (varF 0) (cstF (.int 2))]) (calF lenD [binF ixD (varF 0) (cstF (.int 1))])))) (seqS (asgF 4 (binF modD (calF intD [binF addD (binF modD (calF intD [varF 3]) (cstF (.int 4294967279))) (binF mulD (cstF (.int 2246822519)) (binF ixD (varF 0) (cstF (.int 2))))]) (cstF (.int 4294967279)))) (seqS (asgF 4 (binF modD (calF intD [binF addD (binF mulD (varF 4) (varF 4)) (binF mulD (cstF (.int 30341)) (binF ixD (varF 0) (cstF (.int 2))))]) (cstF (.int 4294967231)))) (retF (binF modD (binF fdivD (binF modD (calF intD [binF mulD (varF 4) (varF 4)]) (cstF (.int 4294967197))) (cstF (.int 2048))) (varF 1)))))))
end DL
namespace DL
open PySem PySem.Spec PyProof.Rows L2
/-! ### the other deck is made -/
noncomputable def deck2B : SM := seqS (asgF 1 (cmpD [2] (itF (sliF sliD (varF 0) none (some (cstF (.int 63))))) (tgName 2) (yesF) (calF absD [varF 2]))) (retF (lstO [cmpO [2] (itF (varF 1)) (tgName 2) (tbF (binF geD (varF 2) (binF powD (cstF (.int 10)) (cstF (.int 18))))) (varF 2), binF addD (varF 1) (lstF [binF addD (cstF (.int 11209)) (calF lenD [varF 1])]), cstF (.int 0)]))
end DL
namespace DL
open PySem PySem.Spec PyProof.Rows L2
/-- one step from the front: to show P show Q -/
class StpA (P : Prop) (Q : outParam Prop) : Prop where
  go : Q → P
class StpB (P : Prop) (Q : outParam Prop) : Prop where
  go : Q → P
/-- what stands in a frame -/
class FAt (fr : Frame) (k : Nat) (d : outParam D) : Prop where
  e : fr[k]? = some (some d)
instance i_at0 {fr : Frame} {d : D} : FAt (some d :: fr) 0 d := ⟨rfl⟩
instance i_at {fr : Frame} {k : Nat} {d : D} {x : Option D} [h : FAt fr k d] : FAt (x :: fr) (k + 1) d := ⟨by simpa using h.e⟩
class FSet (fr : Frame) (k : Nat) (x : Option D) (fr' : outParam Frame) : Prop where
  e : fr.set k x = fr'
instance i_set0 {fr : Frame} {x y : Option D} : FSet (y :: fr) 0 x (x :: fr) := ⟨rfl⟩
instance i_set {fr fr' : Frame} {k : Nat} {x y : Option D} [h : FSet fr k x fr'] : FSet (y :: fr) (k + 1) x (y :: fr') := ⟨by rw [List.set_cons_succ, h.e]⟩
/-! ### what is wanted of a mirror: step by step from the front -/
def Ok {α : Type} (r : R α) (Q : α → Store → Prop) : Prop := match r with
  | .ok a S => Q a S
  | _ => False
def OkS (r : RS) (Q : Fl → Frame → Store → Prop) : Prop := match r with
  | .ok fl fr S => Q fl fr S
  | _ => False
/-- behind a statement -/
def Then (g : SM) (Q : Fl → Frame → Store → Prop) (fl : Fl) (fr : Frame) (S : Store) : Prop := match fl with
  | .nx => OkS (g fr S) Q
  | fl => Q fl fr S
/-- a branch -/
def Br (b : Bool) (A B : Prop) : Prop := match b with
  | true => A
  | false => B
/-- behind a def's body -/
def Rt (Q : D → Store → Prop) (fl : Fl) (_ : Frame) (S : Store) : Prop := match fl with
  | .rt d => Q d S
  | .nx => Q .non S
  | _ => False
/-- behind a loop's body -/
def Lp (I : Frame → Store → Prop) (Q : Fl → Frame → Store → Prop) (fl : Fl) (fr : Frame) (S : Store) : Prop := match fl with
  | .nx => I fr S
  | .ct => I fr S
  | .bk => Q .nx fr S
  | .rt d => Q (.rt d) fr S
/-- what is walked -/
def SrcQ (src : Src) (P : List D → Prop) : Prop := ∃ xs, (∀ S, src S = some xs) ∧ P xs
theorem SrcQ.con {xs : List D} {P : List D → Prop} (h : P xs) : SrcQ (fun _ => some xs) P := ⟨xs, fun _ => rfl, h⟩
instance i_SrcQ_con {xs : List D} {P : List D → Prop} : StpA (SrcQ (fun _ => some xs) P) (P xs) := ⟨SrcQ.con⟩
theorem SrcQ.tup {xs : List D} {P : List D → Prop} (h : P xs) : SrcQ (srcSeq (.tup xs)) P := ⟨xs, fun _ => rfl, h⟩
instance i_SrcQ_tup {xs : List D} {P : List D → Prop} : StpA (SrcQ (srcSeq (.tup xs)) P) (P xs) := ⟨SrcQ.tup⟩
theorem SrcQ.lst {xs : List D} {P : List D → Prop} (h : P xs) : SrcQ (srcSeq (.lst xs)) P := ⟨xs, fun _ => rfl, h⟩
instance i_SrcQ_lst {xs : List D} {P : List D → Prop} : StpA (SrcQ (srcSeq (.lst xs)) P) (P xs) := ⟨SrcQ.lst⟩
def ItQ (Q : Src → Store → Prop) (d : D) (S : Store) : Prop := (∃ l, seqL S d = some l) ∧ Q (srcSeq d) S
theorem ItQ.tup {Q : Src → Store → Prop} {l : List D} {S : Store} (h : Q (srcSeq (.tup l)) S) : ItQ Q (.tup l) S := ⟨⟨l, rfl⟩, h⟩
instance i_ItQ_tup {Q : Src → Store → Prop} {l : List D} {S : Store} : StpA (ItQ Q (.tup l) S) (Q (srcSeq (.tup l)) S) := ⟨ItQ.tup⟩
theorem ItQ.lst {Q : Src → Store → Prop} {l : List D} {S : Store} (h : Q (srcSeq (.lst l)) S) : ItQ Q (.lst l) S := ⟨⟨l, rfl⟩, h⟩
instance i_ItQ_lst {Q : Src → Store → Prop} {l : List D} {S : Store} : StpA (ItQ Q (.lst l) S) (Q (srcSeq (.lst l)) S) := ⟨ItQ.lst⟩
/-- a frame that is to be worked out -/
def Fr (fr : Frame) (P : Frame → Prop) : Prop := P fr
theorem Fr.go {fr : Frame} {P : Frame → Prop} (h : ∀ fr', fr = fr' → P fr') : Fr fr P := h fr rfl
section
variable {α β : Type} {Q : α → Store → Prop} {P : β → Store → Prop} {S S1 : Store} {fr : Frame} {QD : D → Store → Prop} {QB : Bool → Store → Prop} {QF : Frame → Store → Prop} {QL : List D → Store → Prop} {QS : Fl → Frame → Store → Prop} {i j : Int} {n m : Nat} {d : D} {x y z : D} {l l' : List D} {a b : Str} {bb : Bool}
theorem Ok.of {r : R α} {v : α} (h : r = .ok v S1) (q : Q v S1) : Ok r Q := by rw [h]; exact q
theorem Ok.ex {r : R α} (h : Ok r Q) : ∃ v S', r = .ok v S' ∧ Q v S' := by
  cases r with
  | ok v S' => exact ⟨v, S', rfl, h⟩
  | _ => exact h.elim
theorem Ok.imp {r : R α} {Q' : α → Store → Prop} (h : Ok r Q) (k : ∀ v S', Q v S' → Q' v S') : Ok r Q' := by
  cases r with
  | ok v S' => exact k _ _ h
  | _ => exact h.elim
theorem OkS.ex {r : RS} (h : OkS r QS) : ∃ fl fr S', r = .ok fl fr S' ∧ QS fl fr S' := by
  cases r with
  | ok fl fr S' => exact ⟨fl, fr, S', rfl, h⟩
  | _ => exact h.elim
theorem Ok.bnd {mm : M β} {f : β → M α} (h : Ok (mm S) fun v S' => Ok (f v S') Q) : Ok (DL.bnd mm f S) Q := by
  obtain ⟨v, S', e, q⟩ := h.ex
  rw [bnd_ok e]
  exact q
theorem Ok.rb {r : R β} {f : β → Store → R α} (h : Ok r fun v S' => Ok (f v S') Q) : Ok (DL.rb r f) Q := by
  obtain ⟨v, S', e, q⟩ := h.ex
  rw [e]
  exact q
theorem Ok.nox {mm : M α} (h : Ok (mm S) Q) : Ok (DL.nox mm S) Q := by
  obtain ⟨v, S', e, q⟩ := h.ex
  exact Ok.of (nox_ok e) q
theorem OkS.exS {r : R β} {k : β → Store → RS} (h : Ok r fun v S' => OkS (k v S') QS) : OkS (DL.exS r fr k) QS := by
  obtain ⟨v, S', e, q⟩ := h.ex
  rw [e]
  exact q
/-! branches -/
theorem Br.t {A B : Prop} (h : A) : Br true A B := h
instance i_Br_t {A B : Prop} : StpA (Br true A B) (A) := ⟨Br.t⟩
theorem Br.f {A B : Prop} (h : B) : Br false A B := h
instance i_Br_f {A B : Prop} : StpA (Br false A B) (B) := ⟨Br.f⟩
theorem Br.dt {p : Prop} [Decidable p] {A B : Prop} (hp : p) (h : A) : Br (decide p) A B := by rw [decide_eq_true hp]; exact h
theorem Br.df {p : Prop} [Decidable p] {A B : Prop} (hp : ¬p) (h : B) : Br (decide p) A B := by rw [decide_eq_false hp]; exact h
theorem Br.not {A B : Prop} (h : Br bb B A) : Br (!bb) A B := by cases bb <;> exact h
instance i_Br_not {A B : Prop} : StpA (Br (!bb) A B) (Br bb B A) := ⟨Br.not⟩
theorem Br.spd {p : Prop} [Decidable p] {A B : Prop} (h : p → A) (h' : ¬p → B) : Br (decide p) A B := by
  by_cases hp : p
  · exact Br.dt hp (h hp)
  · exact Br.df hp (h' hp)
/-! expressions -/
theorem Ok.var {k : Nat} (h : ∃ d, fr[k]? = some (some d) ∧ QD d S) : Ok (varF k fr S) QD := by
  obtain ⟨d, e, h⟩ := h
  unfold varF
  rw [e]
  exact h
instance i_var {k : Nat} [e : FAt fr k d] : StpA (Ok (varF k fr S) QD) (QD d S) := ⟨fun h => Ok.var ⟨d, e.e, h⟩⟩
instance i_fr {k : Nat} {x : Option D} {fr' : Frame} {P : Frame → Prop} [e : FSet fr k x fr'] : StpA (Fr (fr.set k x) P) (P fr') := ⟨fun h => Fr.go fun _ e2 => by rw [← e2, e.e]; exact h⟩
theorem Ok.cst (h : QD d S) : Ok (cstF d fr S) QD := h
instance i_Ok_cst  : StpA (Ok (cstF d fr S) QD) (QD d S) := ⟨Ok.cst⟩
theorem Ok.bin {g : D → D → M D} {f k : Frame → M D} (h : Ok (f fr S) fun x S1 => Ok (k fr S1) fun y S2 => Ok (g x y S2) QD) : Ok (binF g f k fr S) QD := Ok.bnd (h.imp fun _ _ q => Ok.bnd q)
instance i_Ok_bin {g : D → D → M D} {f k : Frame → M D} : StpA (Ok (binF g f k fr S) QD) (Ok (f fr S) fun x S1 => Ok (k fr S1) fun y S2 => Ok (g x y S2) QD) := ⟨Ok.bin⟩
theorem Ok.un {g : D → M D} {f : Frame → M D} (h : Ok (f fr S) fun x S1 => Ok (g x S1) QD) : Ok (unF g f fr S) QD := Ok.bnd h
instance i_Ok_un {g : D → M D} {f : Frame → M D} : StpA (Ok (unF g f fr S) QD) (Ok (f fr S) fun x S1 => Ok (g x S1) QD) := ⟨Ok.un⟩
theorem Ok.calp {g : List D → M D} {fs : List (Frame → M D)} (h : Ok (seqA fs fr S) fun l S1 => Ok (g l S1) QD) : Ok (calF (fun xs => g (xs ++ [])) fs fr S) QD := Ok.bnd (h.imp fun v _ q => by rw [List.append_nil]; exact q)
instance (priority := 1100) i_Ok_calp {g : List D → M D} {fs : List (Frame → M D)} : StpA (Ok (calF (fun xs => g (xs ++ [])) fs fr S) QD) (Ok (seqA fs fr S) fun l S1 => Ok (g l S1) QD) := ⟨Ok.calp⟩
theorem Ok.cal {g : List D → M D} {fs : List (Frame → M D)} (h : Ok (seqA fs fr S) fun l S1 => Ok (g l S1) QD) : Ok (calF g fs fr S) QD := Ok.bnd h
instance i_Ok_cal {g : List D → M D} {fs : List (Frame → M D)} : StpA (Ok (calF g fs fr S) QD) (Ok (seqA fs fr S) fun l S1 => Ok (g l S1) QD) := ⟨Ok.cal⟩
theorem Ok.anil (h : QL [] S) : Ok (seqA [] fr S) QL := h
instance i_Ok_anil  : StpA (Ok (seqA [] fr S) QL) (QL [] S) := ⟨Ok.anil⟩
theorem Ok.acons {f : Frame → M D} {fs : List (Frame → M D)} (h : Ok (f fr S) fun x S1 => Ok (seqA fs fr S1) fun xs S2 => QL (x :: xs) S2) : Ok (seqA (f :: fs) fr S) QL := Ok.bnd (h.imp fun _ _ q => Ok.bnd (q.imp fun _ _ q => q))
instance i_Ok_acons {f : Frame → M D} {fs : List (Frame → M D)} : StpA (Ok (seqA (f :: fs) fr S) QL) (Ok (f fr S) fun x S1 => Ok (seqA fs fr S1) fun xs S2 => QL (x :: xs) S2) := ⟨Ok.acons⟩
theorem Ok.tup {fs : List (Frame → M D)} (h : Ok (seqA fs fr S) fun l S1 => QD (.tup l) S1) : Ok (tupF fs fr S) QD := Ok.bnd (h.imp fun _ _ q => q)
instance i_Ok_tup {fs : List (Frame → M D)} : StpA (Ok (tupF fs fr S) QD) (Ok (seqA fs fr S) fun l S1 => QD (.tup l) S1) := ⟨Ok.tup⟩
theorem Ok.lst {fs : List (Frame → M D)} (h : Ok (seqA fs fr S) fun l S1 => QD (.lst l) S1) : Ok (lstF fs fr S) QD := Ok.bnd (h.imp fun _ _ q => q)
instance i_Ok_lst {fs : List (Frame → M D)} : StpA (Ok (lstF fs fr S) QD) (Ok (seqA fs fr S) fun l S1 => QD (.lst l) S1) := ⟨Ok.lst⟩
theorem Ok.lstO {fs : List (Frame → M D)} (h : Ok (seqA fs fr S) fun l S1 => QD (.ob S1.length) (S1 ++ [some (.lst l)])) : Ok (DL.lstO fs fr S) QD := Ok.bnd (h.imp fun _ _ q => q)
instance i_Ok_lstO {fs : List (Frame → M D)} : StpA (Ok (DL.lstO fs fr S) QD) (Ok (seqA fs fr S) fun l S1 => QD (.ob S1.length) (S1 ++ [some (.lst l)])) := ⟨Ok.lstO⟩
theorem Ok.tb {f : Frame → M D} (h : Ok (f fr S) fun x S1 => Ok (tsb x S1) QB) : Ok (tbF f fr S) QB := Ok.bnd h
instance i_Ok_tb {f : Frame → M D} : StpA (Ok (tbF f fr S) QB) (Ok (f fr S) fun x S1 => Ok (tsb x S1) QB) := ⟨Ok.tb⟩
theorem Ok.tst {f : Frame → M D} (h : Ok (f fr S) fun x S1 => Ok (truF x S1) QB) : Ok (tstF f fr S) QB := Ok.bnd h
instance i_Ok_tst {f : Frame → M D} : StpA (Ok (tstF f fr S) QB) (Ok (f fr S) fun x S1 => Ok (truF x S1) QB) := ⟨Ok.tst⟩
theorem Ok.tsb (h : QB bb S) : Ok (DL.tsb (.bl bb) S) QB := h
instance i_Ok_tsb  : StpA (Ok (DL.tsb (.bl bb) S) QB) (QB bb S) := ⟨Ok.tsb⟩
theorem Ok.tru_bl (h : QB bb S) : Ok (truF (.bl bb) S) QB := h
instance i_Ok_tru_bl  : StpA (Ok (truF (.bl bb) S) QB) (QB bb S) := ⟨Ok.tru_bl⟩
theorem Ok.notF {f : Frame → M Bool} (h : Ok (f fr S) fun b S1 => QB (!b) S1) : Ok (DL.notF f fr S) QB := Ok.bnd (h.imp fun _ _ q => q)
instance i_Ok_notF {f : Frame → M Bool} : StpA (Ok (DL.notF f fr S) QB) (Ok (f fr S) fun b S1 => QB (!b) S1) := ⟨Ok.notF⟩
theorem Ok.orF {f g : Frame → M Bool} (h : Ok (f fr S) fun b S1 => Br b (QB true S1) (Ok (g fr S1) QB)) : Ok (DL.orF f g fr S) QB := Ok.bnd (h.imp fun b _ q => by cases b <;> exact q)
instance i_Ok_orF {f g : Frame → M Bool} : StpA (Ok (DL.orF f g fr S) QB) (Ok (f fr S) fun b S1 => Br b (QB true S1) (Ok (g fr S1) QB)) := ⟨Ok.orF⟩
theorem Ok.ite {c : Frame → M Bool} {f g : Frame → M D} (h : Ok (c fr S) fun b S1 => Br b (Ok (f fr S1) QD) (Ok (g fr S1) QD)) : Ok (iteF c f g fr S) QD := Ok.bnd (h.imp fun b _ q => by cases b <;> exact q)
instance i_Ok_ite {c : Frame → M Bool} {f g : Frame → M D} : StpA (Ok (iteF c f g fr S) QD) (Ok (c fr S) fun b S1 => Br b (Ok (f fr S1) QD) (Ok (g fr S1) QD)) := ⟨Ok.ite⟩
theorem Ok.yes (h : QB true S) : Ok (yesF fr S) QB := h
instance i_Ok_yes  : StpA (Ok (yesF fr S) QB) (QB true S) := ⟨Ok.yes⟩
theorem Ok.prtN {QO : Option Int → Store → Prop} (h : QO none S) : Ok (prtF none fr S) QO := h
instance i_Ok_prtN {QO : Option Int → Store → Prop} : StpA (Ok (prtF none fr S) QO) (QO none S) := ⟨Ok.prtN⟩
theorem Ok.prtS {QO : Option Int → Store → Prop} {f : Frame → M D} (h : Ok (f fr S) fun x S1 => ∃ i, x = .int i ∧ QO (some i) S1) : Ok (prtF (some f) fr S) QO := Ok.bnd (h.imp fun x S1 q => by obtain ⟨i, rfl, q⟩ := q; exact q)
instance i_Ok_prtS {QO : Option Int → Store → Prop} {f : Frame → M D} : StpA (Ok (prtF (some f) fr S) QO) (Ok (f fr S) fun x S1 => ∃ i, x = .int i ∧ QO (some i) S1) := ⟨Ok.prtS⟩
theorem Ok.sli {g : D → Option Int → Option Int → M D} {f : Frame → M D} {lo hi : Option (Frame → M D)} (h : Ok (f fr S) fun x S1 => Ok (prtF lo fr S1) fun l S2 => Ok (prtF hi fr S2) fun u S3 => Ok (g x l u S3) QD) : Ok (sliF g f lo hi fr S) QD :=
  Ok.bnd (h.imp fun _ _ q => Ok.bnd (q.imp fun _ _ q => Ok.bnd q))
instance i_Ok_sli {g : D → Option Int → Option Int → M D} {f : Frame → M D} {lo hi : Option (Frame → M D)} : StpA (Ok (sliF g f lo hi fr S) QD) (Ok (f fr S) fun x S1 => Ok (prtF lo fr S1) fun l S2 => Ok (prtF hi fr S2) fun u S3 => Ok (g x l u S3) QD) := ⟨Ok.sli⟩
theorem Ok.exi {v : Int} {T : Int → Prop} (h : T v) : ∃ i, D.int v = .int i ∧ T i := ⟨v, rfl, h⟩
instance i_Ok_exi {v : Int} {T : Int → Prop} : StpA (∃ i, D.int v = .int i ∧ T i) (T v) := ⟨Ok.exi⟩
theorem Ok.met {T : String} {g : D → List D → M D} {f : Frame → M D} {fs : List (Frame → M D)} (h : Ok (f fr S) fun o S1 => tyR S1 T o = true ∧ Ok (seqA fs fr S1) fun xs S2 => Ok (g o xs S2) QD) : Ok (metF T g f fs fr S) QD := by
  rw [metF_run]
  refine Ok.rb (h.imp fun o S1 q => ?_)
  rw [if_pos q.1]
  exact Ok.rb q.2
/-! operations -/
theorem Ok.add_tt (hl : l.length + l'.length ≤ 1000) (h : QD (.tup (l ++ l')) S) : Ok (addD (.tup l) (.tup l') S) QD := Ok.of (add_tup (by rw [sizeLine_eq]; omega)) h
theorem Ok.sub_ii (h : QD (.int (i - j)) S) : Ok (subD (.int i) (.int j) S) QD := h
instance i_Ok_sub_ii  : StpA (Ok (subD (.int i) (.int j) S) QD) (QD (.int (i - j)) S) := ⟨Ok.sub_ii⟩
theorem Ok.gt_ii (h : QD (.bl (decide (j < i))) S) : Ok (gtD (.int i) (.int j) S) QD := h
instance i_Ok_gt_ii  : StpA (Ok (gtD (.int i) (.int j) S) QD) (QD (.bl (decide (j < i))) S) := ⟨Ok.gt_ii⟩
theorem Ok.eq_ii (h : QD (.bl (decide (i = j))) S) : Ok (eqD (.int i) (.int j) S) QD := by rw [eq_int]; exact h
instance i_Ok_eq_ii  : StpA (Ok (eqD (.int i) (.int j) S) QD) (QD (.bl (decide (i = j))) S) := ⟨Ok.eq_ii⟩
theorem Ok.eq_ss (h : QD (.bl (decide (a = b))) S) : Ok (eqD (.str a) (.str b) S) QD := h
instance i_Ok_eq_ss  : StpA (Ok (eqD (.str a) (.str b) S) QD) (QD (.bl (decide (a = b))) S) := ⟨Ok.eq_ss⟩
theorem Ok.ne_ss (h : QD (.bl (!decide (a = b))) S) : Ok (neD (.str a) (.str b) S) QD := h
theorem Ok.tup_l (h : QD (.tup l) S) : Ok (tupleD [.lst l] S) QD := h
instance i_Ok_tup_l  : StpA (Ok (tupleD [.lst l] S) QD) (QD (.tup l) S) := ⟨Ok.tup_l⟩
theorem Ok.ix_t (h : ∃ d, atI l i = some d ∧ QD d S) : Ok (ixD (.tup l) (.int i) S) QD := by obtain ⟨d, e, h⟩ := h; rw [ix_tup e]; exact h
theorem Ok.sli_t {lo hi : Option Int} (h : QD (.tup (DL.cutD l lo hi)) S) : Ok (sliD (.tup l) lo hi S) QD := h
theorem Ok.app_o (e : S[n]? = some (some (.lst l))) (z : l.length < 1000) (h : QD .non (S.set n (some (.lst (l ++ [d]))))) : Ok (appD (.ob n) [d] S) QD := Ok.of (app_ob e (by rw [sizeLine_eq]; omega)) h
/-! statements -/
theorem OkS.seq {f g : SM} (h : OkS (f fr S) (Then g QS)) : OkS (seqS f g fr S) QS := by
  obtain ⟨fl, fr', S', e, q⟩ := h.ex
  unfold seqS
  rw [e]
  cases fl <;> exact q
instance i_OkS_seq {f g : SM} : StpA (OkS (seqS f g fr S) QS) (OkS (f fr S) (Then g QS)) := ⟨OkS.seq⟩
theorem Then.nx {g : SM} (h : OkS (g fr S) QS) : Then g QS .nx fr S := h
instance i_Then_nx {g : SM} : StpA (Then g QS .nx fr S) (OkS (g fr S) QS) := ⟨Then.nx⟩
theorem Then.rt {g : SM} (h : QS (.rt d) fr S) : Then g QS (.rt d) fr S := h
instance i_Then_rt {g : SM} : StpA (Then g QS (.rt d) fr S) (QS (.rt d) fr S) := ⟨Then.rt⟩
theorem Rt.rt (h : QD d S) : Rt QD (.rt d) fr S := h
instance i_Rt_rt  : StpA (Rt QD (.rt d) fr S) (QD d S) := ⟨Rt.rt⟩
theorem Lp.nx {I : Frame → Store → Prop} (h : I fr S) : Lp I QS .nx fr S := h
instance i_Lp_nx {I : Frame → Store → Prop} : StpA (Lp I QS .nx fr S) (I fr S) := ⟨Lp.nx⟩
theorem OkS.asg {k : Nat} {f : Frame → M D} (h : Ok (f fr S) fun d S1 => Fr (fr.set k (some d)) fun fr => QS .nx fr S1) : OkS (asgF k f fr S) QS := OkS.exS h
instance i_OkS_asg {k : Nat} {f : Frame → M D} : StpA (OkS (asgF k f fr S) QS) (Ok (f fr S) fun d S1 => Fr (fr.set k (some d)) fun fr => QS .nx fr S1) := ⟨OkS.asg⟩
theorem OkS.ret {f : Frame → M D} (h : Ok (f fr S) fun d S1 => QS (.rt d) fr S1) : OkS (retF f fr S) QS := OkS.exS h
instance i_OkS_ret {f : Frame → M D} : StpA (OkS (retF f fr S) QS) (Ok (f fr S) fun d S1 => QS (.rt d) fr S1) := ⟨OkS.ret⟩
theorem OkS.expr {f : Frame → M D} (h : Ok (f fr S) fun _ S1 => QS .nx fr S1) : OkS (exprF f fr S) QS := OkS.exS h
instance i_OkS_expr {f : Frame → M D} : StpA (OkS (exprF f fr S) QS) (Ok (f fr S) fun _ S1 => QS .nx fr S1) := ⟨OkS.expr⟩
theorem OkS.nx (h : QS .nx fr S) : OkS (nxF fr S) QS := h
instance i_OkS_nx  : StpA (OkS (nxF fr S) QS) (QS .nx fr S) := ⟨OkS.nx⟩
theorem OkS.ifS {c : Frame → M Bool} {f g : SM} (h : Ok (c fr S) fun b S1 => Br b (OkS (f fr S1) QS) (OkS (g fr S1) QS)) : OkS (DL.ifS c f g fr S) QS := OkS.exS (h.imp fun b _ q => by cases b <;> exact q)
instance i_OkS_ifS {c : Frame → M Bool} {f g : SM} : StpA (OkS (DL.ifS c f g fr S) QS) (Ok (c fr S) fun b S1 => Br b (OkS (f fr S1) QS) (OkS (g fr S1) QS)) := ⟨OkS.ifS⟩
theorem OkS.asgG {g : D → Frame → M Frame} {f : Frame → M D} (h : Ok (f fr S) fun d S1 => Ok (g d fr S1) fun fr' S2 => QS .nx fr' S2) : OkS (DL.asgG g f fr S) QS := OkS.exS (h.imp fun d S1 q => by
  obtain ⟨fr', S2, e, q⟩ := q.ex
  rw [e]
  exact q)
instance i_OkS_asgG {g : D → Frame → M Frame} {f : Frame → M D} : StpA (OkS (DL.asgG g f fr S) QS) (Ok (f fr S) fun d S1 => Ok (g d fr S1) fun fr' S2 => QS .nx fr' S2) := ⟨OkS.asgG⟩
theorem OkS.par {is : List Nat} {fs : List (Frame → M D)} (h : Ok (seqA fs fr S) fun l S1 => Fr (setAll fr is l) fun fr => QS .nx fr S1) : OkS (parF is fs fr S) QS := OkS.exS h
instance i_OkS_par {is : List Nat} {fs : List (Frame → M D)} : StpA (OkS (parF is fs fr S) QS) (Ok (seqA fs fr S) fun l S1 => Fr (setAll fr is l) fun fr => QS .nx fr S1) := ⟨OkS.par⟩
theorem Ok.tgN {k : Nat} (h : Fr (fr.set k (some d)) fun fr => QF fr S) : Ok (tgName k d fr S) QF := h
instance i_Ok_tgN {k : Nat} : StpA (Ok (tgName k d fr S) QF) (Fr (fr.set k (some d)) fun fr => QF fr S) := ⟨Ok.tgN⟩
theorem Ok.def_ {N : Nat} {B : SM} {ds : List D} (h : OkS (B (frame0 N ds) S) (Rt QD)) : Ok (defF N B ds S) QD := by
  obtain ⟨fl, fr, S', e, q⟩ := h.ex
  unfold defF
  refine Ok.nox ?_
  unfold bodyF
  rw [e]
  cases fl <;> first | exact q | exact q.elim
/-! loops -/
theorem loop_ok {I : Nat → Frame → Store → Prop} {g : D → Frame → M Frame} {body : SM} (xs : List D) (step : ∀ i x fr S, xs[i]? = some x → I i fr S → Ok (g x fr S) fun fr1 S1 => OkS (body fr1 S1) (Lp (I (i + 1)) QS)) (done : ∀ fr S, I xs.length fr S → QS .nx fr S) :
    ∀ (l : List D) (k : Nat) (fr : Frame) (S : Store), xs.drop k = l → k ≤ xs.length → I k fr S → OkS (loopL g body l fr S) QS
  | [], k, fr, S, hl, hk, h => by
    have : k = xs.length := by have := List.drop_eq_nil_iff.mp hl; omega
    subst this
    exact done fr S h
  | x :: r, k, fr, S, hl, hk, h => by
    have hlt : k < xs.length := by
      by_cases hlt : k < xs.length
      · exact hlt
      · rw [List.drop_eq_nil_of_le (by omega)] at hl; cases hl
    rw [List.drop_eq_getElem_cons hlt] at hl
    injection hl with hx hr
    obtain ⟨fr1, S1, e1, q1⟩ := (step k x fr S (by rw [← hx]; exact List.getElem?_eq_getElem hlt) h).ex
    obtain ⟨fl, fr2, S2, e2, q2⟩ := q1.ex
    unfold loopL
    rw [e1]
    dsimp only
    rw [e2]
    cases fl with
    | nx => exact loop_ok xs step done r (k + 1) fr2 S2 hr hlt q2
    | ct => exact loop_ok xs step done r (k + 1) fr2 S2 hr hlt q2
    | bk => exact q2
    | rt d => exact q2
theorem OkS.fore {f : Frame → M Src} {g : D → Frame → M Frame} {body : SM} (h : Ok (f fr S) fun src S1 => SrcQ src fun xs => OkS (loopL g body xs fr S1) QS) : OkS (forF f g body fr S) QS := by
  obtain ⟨src, S1, e, xs, hs, h⟩ := h.ex
  rw [for_ok e hs]
  exact h
instance i_OkS_fore {f : Frame → M Src} {g : D → Frame → M Frame} {body : SM} : StpA (OkS (forF f g body fr S) QS) (Ok (f fr S) fun src S1 => SrcQ src fun xs => OkS (loopL g body xs fr S1) QS) := ⟨OkS.fore⟩
theorem OkS.loop {I : Nat → Frame → Store → Prop} {g : D → Frame → M Frame} {body : SM} {xs : List D} (h0 : I 0 fr S)
    (step : ∀ i x fr S, xs[i]? = some x → I i fr S → Ok (g x fr S) fun fr1 S1 => OkS (body fr1 S1) (Lp (I (i + 1)) QS)) (done : ∀ fr S, I xs.length fr S → QS .nx fr S) : OkS (loopL g body xs fr S) QS :=
  loop_ok xs step done xs 0 fr S rfl (Nat.zero_le _) h0
theorem Ok.itT {QR : Src → Store → Prop} {f : Frame → M D} (h : Ok (f fr S) (ItQ QR)) : Ok (itF f fr S) QR := by
  unfold itF
  refine Ok.bnd (h.imp fun d S1 q => ?_)
  obtain ⟨⟨l, e⟩, q⟩ := q
  rw [e]
  exact q
instance i_Ok_itT {QR : Src → Store → Prop} {f : Frame → M D} : StpA (Ok (itF f fr S) QR) (Ok (f fr S) (ItQ QR)) := ⟨Ok.itT⟩
theorem Ok.rngF {QR : Src → Store → Prop} {f : List D → M Src} {fs : List (Frame → M D)} (h : Ok (seqA fs fr S) fun l S1 => Ok (f l S1) QR) : Ok (DL.rngF f fs fr S) QR := Ok.bnd h
instance i_Ok_rngF {QR : Src → Store → Prop} {f : List D → M Src} {fs : List (Frame → M D)} : StpA (Ok (DL.rngF f fs fr S) QR) (Ok (seqA fs fr S) fun l S1 => Ok (f l S1) QR) := ⟨Ok.rngF⟩
theorem Ok.rng1 {QR : Src → Store → Prop} {i : Int} (h0 : i.natAbs ≤ 1000000) (h : QR (fun _ => some (rngL 0 i.toNat)) S) : Ok (DL.rng1 [.int i] S) QR := by
  unfold DL.rng1
  show Ok (if _ then _ else _) _
  rw [if_pos ⟨by omega, by omega⟩]
  exact h
theorem Ok.cmpe {vs : List Nat} {f : Frame → M Src} {g : D → Frame → M Frame} {t : Frame → M Bool} {elt : Frame → M D} (h : Ok (f fr S) fun src S1 => SrcQ src fun xs => xs.length ≤ 1000 ∧ Fr (wipeF fr vs) fun fr => Ok (itL g t elt fr xs S1) QL) : Ok (DL.cmpF vs f g t elt fr S) QL := by
  obtain ⟨src, S1, e, xs, hs, hl, h⟩ := h.ex
  obtain ⟨zs, S2, e2, q⟩ := Ok.ex h
  exact Ok.of (cmpF_ok e hs (by rw [sizeLine_eq]; omega) e2) q
instance i_Ok_cmpe {vs : List Nat} {f : Frame → M Src} {g : D → Frame → M Frame} {t : Frame → M Bool} {elt : Frame → M D} : StpA (Ok (DL.cmpF vs f g t elt fr S) QL) (Ok (f fr S) fun src S1 => SrcQ src fun xs => xs.length ≤ 1000 ∧ Fr (wipeF fr vs) fun fr => Ok (itL g t elt fr xs S1) QL) := ⟨Ok.cmpe⟩
theorem Ok.cmpD {vs : List Nat} {f : Frame → M Src} {g : D → Frame → M Frame} {t : Frame → M Bool} {elt : Frame → M D} (h : Ok (DL.cmpF vs f g t elt fr S) fun l S1 => QD (.lst l) S1) : Ok (DL.cmpD vs f g t elt fr S) QD := Ok.bnd (h.imp fun _ _ q => q)
instance i_Ok_cmpD {vs : List Nat} {f : Frame → M Src} {g : D → Frame → M Frame} {t : Frame → M Bool} {elt : Frame → M D} : StpA (Ok (DL.cmpD vs f g t elt fr S) QD) (Ok (DL.cmpF vs f g t elt fr S) fun l S1 => QD (.lst l) S1) := ⟨Ok.cmpD⟩
/-! draws -/
theorem Ok.draw {q : Nat} {many : Int} (dk : Dk n m q S) (hb : 1 ≤ q) (h0 : 0 < many) (h1 : many < 2 ^ 40) (h : ∀ r S', 0 ≤ r → r < many → Dk n m (q - 1) S' → Keep n m S S' → QD (.int r) S') : Ok (defF 5 drawB [.ob n, .int many] S) QD := by
  obtain ⟨a, S', e, ⟨r, rfl, r0, r1⟩, dk', k⟩ := draw_run (n := n) (m := m) h0 h1 (q - 1) S (by rw [Nat.sub_add_cancel hb]; exact dk)
  exact Ok.of e (h r S' r0 r1 dk' k)
noncomputable def oneB (F : List D → M D) : SM := retF (binF ixD (varF 1) (calF (fun xs => F (xs ++ [])) [varF 0, calF lenD [varF 1]]))
theorem Ok.one {q : Nat} (dk : Dk n m q S) (hb : 1 ≤ q) (hx : x = .lst l ∨ x = .tup l) (h0 : l ≠ []) (h1 : l.length < 2 ^ 30) (h : ∀ x S', x ∈ l → Dk n m (q - 1) S' → Keep n m S S' → QD x S') : Ok (defF 2 (oneB (defF 5 drawB)) [.ob n, x] S) QD := by
  obtain ⟨a, S', e, p, dk', k⟩ := one_run (n := n) (m := m) (fun many h0 h1 => draw_run (n := n) (m := m) h0 h1) hx h0 h1 (q - 1) S (by rw [Nat.sub_add_cancel hb]; exact dk)
  exact Ok.of e (h a S' p dk' k)
end
end DL
namespace DL
open PySem PySem.Spec PyProof.Rows L2
open SeqAt (shaped)
/-! ### data that can be compared and shown: its depth, a bound of its text's length -/
structure Rz (dep len : Nat) (d : D) : Prop where
  ex : ∃ p, py d = some p ∧ p.showable = true ∧ p.canLay0 = true ∧ p.depth ≤ dep ∧ p.shown.length ≤ len
theorem Rz.mono {a b a' b' : Nat} {d : D} (h : Rz a b d) (h1 : a ≤ a') (h2 : b ≤ b') : Rz a' b' d := by
  obtain ⟨p, e, x, y, z, w⟩ := h.ex
  exact ⟨p, e, x, y, Nat.le_trans z h1, Nat.le_trans w h2⟩
theorem strOk_lt {a : Str} (h : PyData.strOk a = true) : ∀ c ∈ a.cps.toList, c < 16 ^ 8 := by
  intro c hc
  have h' : a.cps.all (fun c => decide (c < 0x110000)) = true := h
  rw [Array.all_eq_true_iff_forall_mem] at h'
  have := h' c (Array.mem_toList_iff.mp hc)
  simp only [decide_eq_true_eq] at this
  exact Nat.lt_trans this (by decide)
theorem Rz.str {a : Str} (n : Nat) (h : a.length ≤ n) (ok : PyData.strOk a = true) : Rz 0 (10 * n + 2) (.str a) := by
  refine ⟨_, rfl, rfl, ok, Nat.le_refl _, ?_⟩
  show (reprText a).length ≤ _
  have := PySem.StrLaws.reprText_len a (strOk_lt ok)
  omega
theorem pys_of {dep len : Nat} : ∀ {l : List D}, (∀ d ∈ l, Rz dep len d) → ∃ ps, pys l = some ps ∧ PyData.showableAll ps = true ∧ PyData.canLayAll0 ps = true ∧ PyData.depthAll ps ≤ dep ∧ ps.length = l.length ∧ ∀ t ∈ PyData.shownAll ps, t.length ≤ len
  | [], _ => ⟨[], rfl, rfl, rfl, Nat.zero_le _, rfl, fun _ h => nomatch h⟩
  | d :: r, h => by
    obtain ⟨p, e, a1, a2, a3, a4⟩ := (h d List.mem_cons_self).ex
    obtain ⟨ps, e2, b1, b2, b3, b4, b5⟩ := pys_of (l := r) fun x hx => h x (List.mem_cons_of_mem _ hx)
    refine ⟨p :: ps, by simp only [pys, e, e2], by simp only [PyData.showableAll, a1, b1, Bool.and_self], by simp only [PyData.canLayAll0, a2, b2, Bool.and_self], ?_, by simp [b4], fun t ht => ?_⟩
    · simp only [PyData.depthAll]
      omega
    · simp only [PyData.shownAll] at ht
      rcases List.mem_cons.mp ht with rfl | ht
      · exact a4
      · exact b5 t ht
theorem shownAll_len : ∀ ps : List PyData, (PyData.shownAll ps).length = ps.length
  | [] => rfl
  | p :: r => by simp [PyData.shownAll, shownAll_len r]
theorem sumlen_le {c : Nat} : ∀ l : List Str, (∀ x ∈ l, x.length ≤ c) → (l.map (·.length)).sum ≤ l.length * c
  | [], _ => by simp
  | x :: r, h => by
    have h1 := h x List.mem_cons_self
    have h2 := sumlen_le r fun y hy => h y (List.mem_cons_of_mem _ hy)
    simp only [List.map_cons, List.sum_cons, List.length_cons, Nat.succ_mul]
    omega
theorem Rz.tup {dep len : Nat} {l : List D} (h : ∀ d ∈ l, Rz dep len d) : Rz (dep + 1) (l.length * (len + 2) + 3) (.tup l) := by
  obtain ⟨ps, e, h1, h2, h3, h4, h5⟩ := pys_of h
  refine ⟨.tuple ps, by simp only [py, e, Option.map], by simpa [PyData.showable] using h1, by simpa [PyData.canLay0] using h2, by simp only [PyData.depth]; omega, ?_⟩
  have q : PyData.shown (.tuple ps) = tupleText (PyData.shownAll ps) := by simp [PyData.shown]
  rw [q]
  have t := tupleText_len_le (PyData.shownAll ps)
  have s := sumlen_le _ h5
  rw [shownAll_len, h4] at t s
  rw [Nat.mul_add]
  omega
def rep (d : D) : Str := match py d with
  | some p => p.shown
  | none => Str.empty
def pd (d : D) : PyData := (py d).getD .none
theorem pyS_of {S : Store} {d : D} {p : PyData} (h : py d = some p) : pyS S d = some p := by
  cases d with
  | ob n => cases h
  | _ => exact h
theorem Rz.repr {dep len : Nat} {d : D} (h : Rz dep len d) (hd : dep ≤ 60) (hl : len ≤ 16777216) (S : Store) : reprD [d] S = .ok (.str (rep d)) S := by
  obtain ⟨p, e, a1, a2, a3, a4⟩ := h.ex
  have : rep d = p.shown := by unfold rep; rw [e]
  rw [this]
  exact repr_ok (pyS_of e) ⟨a1, PyData.hasDict_of_canLay p a2, by omega, by rw [sizeLine_eq]; omega⟩
def eqb (x y : D) : Bool := PyData.eqv (pd x) (pd y)
section
variable {QD : D → Store → Prop} {S : Store} {x y d : D} {a b a' b' : Nat} {p q : Bool}
theorem Ok.repr (h : Rz a b d) (hd : a ≤ 60) (hl : b ≤ 16777216) (k : QD (.str (rep d)) S) : Ok (reprD [d] S) QD := Ok.of (h.repr hd hl S) k
end
mutual
theorem eqv_refl : ∀ p : PyData, p.canLay0 = true → PyData.eqv p p = true
  | .none, _ => rfl
  | .bool b, _ => by simp [PyData.eqv]
  | .int b, _ => by simp [PyData.eqv]
  | .str b, _ => by simp [PyData.eqv]
  | .list l, h => by
    have := eqvAll_refl l (by simpa [PyData.canLay0] using h)
    simpa [PyData.eqv] using this
  | .tuple l, h => by
    have := eqvAll_refl l (by simpa [PyData.canLay0] using h)
    simpa [PyData.eqv] using this
  | .dict _, h => by simp [PyData.canLay0] at h
theorem eqvAll_refl : ∀ l : List PyData, PyData.canLayAll0 l = true → PyData.eqvAll l l = true
  | [], _ => rfl
  | p :: r, h => by
    have h' : p.canLay0 = true ∧ PyData.canLayAll0 r = true := by simpa [PyData.canLayAll0] using h
    simp [PyData.eqvAll, eqv_refl p h'.1, eqvAll_refl r h'.2]
end
end DL
namespace DL
open PySem PySem.Spec PyProof.Rows L2
namespace Pl
def intsD (l : List Int) : D := .tup (l.map .int)
def prD (x : Pw × Int) : D := .tup [intsD x.1, .int x.2]
def d (p : Pol) : D := .ptu (p.map prD)
def leP (x y : Pw × Int) : Bool := leX (prD x) (prD y)
def nzf (l : Pol) : Pol := l.filter fun x => decide (x.2 ≠ 0)
/-- made(factors) -/
def mk (l : Pol) : Pol := (nzf l).mergeSort leP
/-! ### the operations -/
def addAll (l q : Pol) : Pol := q.foldl (fun acc x => add1 acc x.1 x.2) l
def plus (p q : Pol) : Pol := mk (addAll p q)
def negP (q : Pol) : Pol := q.map fun x => (x.1, 0 - x.2)
def minus (p q : Pol) : Pol := plus p (negP q)
def sumK (a b : Pw) : Pw := List.zipWith (· + ·) a b
def scale (k : Pw) (c : Int) (q : Pol) : Pol := q.map fun y => (sumK k y.1, c * y.2)
def mulAll (l p q : Pol) : Pol := p.foldl (fun acc x => addAll acc (scale x.1 x.2 q)) l
def times (p q : Pol) : Pol := mk (mulAll [] p q)
def const (m : Nat) (c : Int) : Pol := if c = 0 then [] else [(List.replicate m 0, c)]
def unit (m j : Nat) : Pw := (List.range m).map fun i => if i = j then 1 else 0
def unk (m j : Nat) : Pol := [(unit m j, 1)]
/-- the greatest power -/
def Dg (b : Int) (p : Pol) : Prop := ∀ x ∈ p, ∀ i ∈ x.1, i ≤ b
end Pl
end DL
namespace DL
open PySem PySem.Spec PyProof.Rows L2
open SeqAt (shaped)
/-! ### formulas as data -/
def Fm.p : Fm → PyData
  | .num n => .int n
  | .lett s => .str s
  | .neg f => .tuple [.str "neg", f.p]
  | .bin op f g => .tuple [.str op, f.p, g.p]
end DL
namespace DL
open PySem PySem.Spec PyProof.Rows L2
section
variable {α β : Type} {S S1 : Store} {fr : Frame} {QD : D → Store → Prop} {QB : Bool → Store → Prop} {QF : Frame → Store → Prop} {QS : Fl → Frame → Store → Prop} {i j : Int} {n m : Nat} {d x y : D} {l : List D} {p q : Bool}
section
variable {T : String} {a : Str}
theorem Ok.isi_int (e : kitB "int" T = some p) (h : QD (.bl p) S) : Ok (isiD T (.int i) S) QD := Ok.of (isi_known rfl e) h
theorem Ok.isi_str (e : kitB "str" T = some p) (h : QD (.bl p) S) : Ok (isiD T (.str a) S) QD := Ok.of (isi_known rfl e) h
theorem Ok.isi_tup (e : kitB "tuple" T = some p) (h : QD (.bl p) S) : Ok (isiD T (.tup l) S) QD := Ok.of (isi_known rfl e) h
end
/-! ### dicts -/
theorem Ok.tgDic {fo fi : Frame → M D} (h : Ok (fo fr S) fun o S1 => Ok (fi fr S1) fun i S2 => Ok (dstD o i d S2) fun _ S3 => QF fr S3) : Ok (DL.tgDic fo fi d fr S) QF := by
  unfold DL.tgDic
  exact Ok.bnd (Ok.nox (h.imp fun o S1 q => Ok.bnd (Ok.nox (q.imp fun i S2 q => Ok.bnd (q.imp fun _ _ q => q)))))
instance i_Ok_tgDic {fo fi : Frame → M D} : StpB (Ok (DL.tgDic fo fi d fr S) QF) (Ok (fo fr S) fun o S1 => Ok (fi fr S1) fun i S2 => Ok (dstD o i d S2) fun _ S3 => QF fr S3) := ⟨Ok.tgDic⟩
/-! ### instances -/
theorem OkS.lcons {g : D → Frame → M Frame} {body : SM} (h : Ok (g x fr S) fun fr1 S1 => OkS (body fr1 S1) (Lp (fun fr S => OkS (loopL g body l fr S) QS) QS)) : OkS (loopL g body (x :: l) fr S) QS := by
  obtain ⟨fr1, S1, e1, q1⟩ := h.ex
  obtain ⟨fl, fr2, S2, e2, q2⟩ := q1.ex
  unfold loopL
  rw [e1]
  dsimp only
  rw [e2]
  cases fl <;> exact q2
theorem OkS.lnil {g : D → Frame → M Frame} {body : SM} (h : QS .nx fr S) : OkS (loopL g body [] fr S) QS := h
theorem Ok.icons {QL : List D → Store → Prop} {g : D → Frame → M Frame} {t : Frame → M Bool} {elt : Frame → M D} (h : Ok (g x fr S) fun fr1 S1 => Ok (t fr1 S1) fun b S2 => Br b (Ok (elt fr1 S2) fun y S3 => Ok (itL g t elt fr l S3) fun ys S4 => QL (y :: ys) S4) (Ok (itL g t elt fr l S2) QL)) : Ok (itL g t elt fr (x :: l) S) QL := by
  unfold itL
  refine Ok.bnd (h.imp fun fr1 S1 q => Ok.bnd (q.imp fun b S2 q => ?_))
  cases b with
  | true =>
    rw [if_pos rfl]
    exact Ok.bnd (Ok.imp q fun y S3 q => Ok.bnd (q.imp fun _ _ q => q))
  | false =>
    rw [if_neg Bool.false_ne_true]
    exact q
end
/-! ### a store that only grows -/
def Ext (S S' : Store) : Prop := ∃ T, S' = S ++ T
theorem Ext.refl {S : Store} : Ext S S := ⟨[], by simp⟩
theorem Ext.app {S : Store} {o : Option O} : Ext S (S ++ [o]) := ⟨_, rfl⟩
theorem Ext.trans {S S1 S2 : Store} (a : Ext S S1) (b : Ext S1 S2) : Ext S S2 := by
  obtain ⟨T, rfl⟩ := a
  obtain ⟨U, rfl⟩ := b
  exact ⟨T ++ U, by rw [List.append_assoc]⟩
theorem Ext.get {S S' : Store} (a : Ext S S') {i : Nat} {o : Option O} (h : S[i]? = some o) : S'[i]? = some o := by
  obtain ⟨T, rfl⟩ := a
  rw [List.getElem?_append_left (List.getElem?_eq_some_iff.mp h).1, h]
theorem Dk.ext {S S' : Store} {n m b : Nat} (d : Dk n m b S) (a : Ext S S') : Dk n m b S' := by
  obtain ⟨T, rfl⟩ := a
  exact d.keep (List.getElem?_append_left d.lt.1) (List.getElem?_append_left d.lt.2)
/-- an object made behind S is written -/
theorem Ext.set {S S' : Store} {n : Nat} {o : Option O} (a : Ext S S') (h : S.length ≤ n) : Ext S (S'.set n o) := by
  obtain ⟨T, rfl⟩ := a
  exact ⟨T.set (n - S.length) o, by rw [List.set_append_right _ _ h]⟩
local macro_rules | `(tactic| and_intros) => `(tactic| repeat (first | with_reducible refine StpA.go ?_ | with_reducible refine StpB.go ?_ | ((with_reducible refine Ok.var ?_); refine ⟨_, rfl, ?_⟩) | ((with_reducible refine Fr.go ?_); intro fr_ e_; simp only [List.set_cons_zero, List.set_cons_succ, setAll, wipeF] at e_; subst e_) | with_reducible refine Ok.sli_tail ?_ | ((with_reducible refine OkS.aug ?_); refine ⟨_, rfl, ?_⟩) | ((with_reducible refine Ok.ix_t ?_); refine ⟨_, rfl, ?_⟩) | ((with_reducible refine Ok.ix_l ?_); refine ⟨_, rfl, ?_⟩) | ((with_reducible refine Ok.tgT ?_ ?_); exact rfl) | with_reducible refine Ok.sli_t ?_ | with_reducible refine Ok.sli_l ?_ | ((with_reducible refine Ok.mod_ii ?_ ?_); (first | decide | (simp; done) | (simp; omega))) | ((with_reducible refine Ok.add_tt ?_ ?_); (first | decide | (simp; done) | (simp; omega))) | ((with_reducible refine Ok.add_ll ?_ ?_); (first | decide | (simp; done) | (simp; omega))) | ((with_reducible refine Ok.add_ss ?_ ?_); (first | decide | (simp; done) | (simp; omega))) | ((with_reducible refine Ok.rng1 ?_ ?_); (first | decide | omega | (simp; omega))) | ((with_reducible refine Br.dt ?_ ?_); (first | assumption | exact rfl | omega | decide +kernel)) | ((with_reducible refine Br.df ?_ ?_); (first | assumption | omega | decide +kernel)) | ((with_reducible refine Br.tt ?_ ?_); (first | assumption | decide +kernel)) | ((with_reducible refine Br.ff ?_ ?_); (first | assumption | decide +kernel)) | ((with_reducible refine Ok.isi_tup (p := true) ?_ ?_); decide +kernel) | ((with_reducible refine Ok.isi_tup (p := false) ?_ ?_); decide +kernel) | ((with_reducible refine Ok.isi_int (p := true) ?_ ?_); decide +kernel) | ((with_reducible refine Ok.isi_int (p := false) ?_ ?_); decide +kernel) | ((with_reducible refine Ok.isi_str (p := true) ?_ ?_); decide +kernel) | ((with_reducible refine Ok.isi_str (p := false) ?_ ?_); decide +kernel) | ((with_reducible refine Ok.isi_lst (p := true) ?_ ?_); decide +kernel) | ((with_reducible refine Ok.isi_lst (p := false) ?_ ?_); decide +kernel) | ((with_reducible refine Ok.isi_bl (p := true) ?_ ?_); decide +kernel) | ((with_reducible refine Ok.isi_bl (p := false) ?_ ?_); decide +kernel) | ((with_reducible refine Ok.isi_non (p := true) ?_ ?_); decide +kernel) | ((with_reducible refine Ok.isi_non (p := false) ?_ ?_); decide +kernel) | ((with_reducible refine Ok.isi_ctu (p := true) ?_ ?_); decide +kernel) | ((with_reducible refine Ok.isi_ctu (p := false) ?_ ?_); decide +kernel) | ((with_reducible refine Ok.isi_emp (p := true) ?_ ?_); decide +kernel) | ((with_reducible refine Ok.isi_emp (p := false) ?_ ?_); decide +kernel)))
/-! ### what laws draw (the first deck) -/
section
variable {S : Store} {QD : D → Store → Prop} {n m q : Nat}
noncomputable def numberB (dr on : List D → M D) : SM := seqS (parF [1, 2] [binF subD (calF (fun xs => dr (xs ++ [])) [varF 0, cstF (.int 19)]) (cstF (.int 9)), binF subD (calF (fun xs => dr (xs ++ [])) [varF 0, cstF (.int 2001)]) (cstF (.int 1000))]) (retF (calF (fun xs => on (xs ++ [])) [varF 0, lstF [cstF (.int 0), cstF (.int 1), unF negD (cstF (.int 1)), cstF (.int 2), varF 1, varF 1, varF 2, binF addD (binF powD (cstF (.int 10)) (cstF (.int 20))) (varF 2), binF subD (varF 2) (binF powD (cstF (.int 10)) (cstF (.int 39)))]]))
noncomputable def numbersB (nu : List D → M D) : SM := retF (calF tupleD [cmpD [2] (rngF rng1 [varF 1]) (tgName 2) (yesF) (calF (fun xs => nu (xs ++ [])) [varF 0])])
end
end DL
namespace DL
open PySem PySem.Spec PyProof.Rows L2
/-! ### rows of whole numbers: places and slices -/
section
variable {α : Type} {g : α → D} {S : Store} {QD : D → Store → Prop} {l m : List α} {x y : α} {a : Str}
end
section
variable {S : Store} {QD : D → Store → Prop} {l m : List Int} {x y : Int} {a : Str} {d e : D}
/-! texts in displays -/
def strsD : List D → Option (List Str)
  | [] => some []
  | .str a :: r => (strsD r).map (a :: ·)
  | _ => none
/-! an object of the store, written again and again -/
variable {o b : Nat} {S0 : Store} {c : Str} {fs : List (Str × D)} {cs : List Str} {f : Str}
end
/-! ### keys -/
inductive Ky
  | dig (n : Fin 10) | lett (i : Fin 4) | plus | minus | times | neg | enter | swap | down | up | last | clear | put | get
  deriving DecidableEq
def DGS : List Str := ["0", "1", "2", "3", "4", "5", "6", "7", "8", "9"]
def Ky.s : Ky → Str
  | .dig n => DGS.getD n.val ""
  | .lett i => (["a", "b", "c", "d"] : List Str).getD i.val ""
  | .plus => "+" | .minus => "-" | .times => "*" | .neg => "neg" | .enter => "enter" | .swap => "swap" | .down => "down" | .up => "up" | .last => "last" | .clear => "clear" | .put => "put" | .get => "get"
def Ky.all : List Ky := (List.ofFn Ky.dig) ++ (List.ofFn Ky.lett) ++ [.plus, .minus, .times, .neg, .enter, .swap, .down, .up, .last, .clear, .put, .get]
theorem Ky.mem : ∀ k : Ky, k ∈ Ky.all := by
  intro k
  cases k with
  | dig n => revert n; decide
  | lett n => revert n; decide
  | _ => decide
theorem Ky.ok_all : ∀ k ∈ Ky.all, PyData.strOk k.s = true ∧ k.s.length ≤ 5 := by decide +kernel
theorem Ky.ok (k : Ky) : PyData.strOk k.s = true := (Ky.ok_all k k.mem).1
theorem Ky.len (k : Ky) : k.s.length ≤ 5 := (Ky.ok_all k k.mem).2
theorem Ky.inj_all : ∀ k ∈ Ky.all, ∀ j ∈ Ky.all, k.s = j.s → k = j := by decide +kernel
/-- a row of keys as data -/
def rowD (ks : List Ky) : D := .tup ((ks.map Ky.s).map .str)
/-- the keys that a box may keep at -/
def KEEPS : List Str := ["*", "+", "-", "neg"]
/-! ### a machine's parts -/
structure St where
  lv : List Int
  kp : Int
  mem : Int
  way : Str
def comeL (way : Str) (n : Int) (l : List Int) : List Int := if way = "held" then n :: l.drop 1 else n :: l.dropLast
def St.come (s : St) (n : Int) : St := ⟨comeL s.way n s.lv, s.kp, s.mem, s.way⟩
def pressS (deep : Str) (l : List Int) : Ky → St → St
  | .dig n, s => ⟨if s.way = "open" then (10 * s.lv.getD 0 0 + (n.val : Nat)) :: s.lv.drop 1 else comeL s.way (n.val : Nat) s.lv, s.kp, s.mem, "open"⟩
  | .lett i, s => ⟨comeL s.way (l.getD i.val 0) s.lv, s.kp, s.mem, "free"⟩
  | .enter, s => ⟨s.lv.getD 0 0 :: s.lv.dropLast, s.kp, s.mem, "held"⟩
  | .clear, s => ⟨0 :: s.lv.drop 1, s.kp, s.mem, "held"⟩
  | .plus, s => ⟨(s.lv.getD 1 0 + s.lv.getD 0 0) :: s.lv.drop 2 ++ [if deep = "copy" then s.lv.getD (s.lv.length - 1) 0 else 0], s.kp, s.mem, "free"⟩
  | .minus, s => ⟨(s.lv.getD 1 0 - s.lv.getD 0 0) :: s.lv.drop 2 ++ [if deep = "copy" then s.lv.getD (s.lv.length - 1) 0 else 0], s.kp, s.mem, "free"⟩
  | .times, s => ⟨(s.lv.getD 1 0 * s.lv.getD 0 0) :: s.lv.drop 2 ++ [if deep = "copy" then s.lv.getD (s.lv.length - 1) 0 else 0], s.kp, s.mem, "free"⟩
  | .neg, s => ⟨(0 - s.lv.getD 0 0) :: s.lv.drop 1, s.kp, s.mem, "free"⟩
  | .swap, s => ⟨s.lv.getD 1 0 :: s.lv.getD 0 0 :: s.lv.drop 2, s.kp, s.mem, "free"⟩
  | .down, s => ⟨s.lv.drop 1 ++ s.lv.take 1, s.kp, s.mem, "free"⟩
  | .up, s => ⟨s.lv.drop (s.lv.length - 1) ++ s.lv.dropLast, s.kp, s.mem, "free"⟩
  | .last, s => ⟨comeL s.way s.kp s.lv, s.kp, s.mem, "free"⟩
  | .put, s => ⟨s.lv, s.kp, s.lv.getD 0 0, "free"⟩
  | .get, s => ⟨comeL s.way s.mem s.lv, s.kp, s.mem, "free"⟩
/-- what a key that the box keeps at does ahead of all -/
def keepS (ks : List Str) (k : Ky) (s : St) : St := ⟨s.lv, if decide (k.s ∈ ks) = true then s.lv.getD 0 0 else s.kp, s.mem, s.way⟩
def pressN (deep : Str) (ks : List Str) (l : List Int) (k : Ky) (s : St) : St := pressS deep l k (keepS ks k s)
end DL
namespace DL.Lb
open PySem PySem.Spec PyProof.Rows L2 DL
def K_KEEPING : List Str := ["*", "+", "-", "neg"]
noncomputable def B_x_draw : SM := seqS (asgG (tgSub (varF 0) (cstF (.int 1))) (binF addD (binF ixD (varF 0) (cstF (.int 1))) (cstF (.int 1)))) (seqS (asgG (tgTup [tgName 2, tgName 3]) (tupF [cstF (.int 0), unF negD (cstF (.int 1))])) (seqS (ifS (tbF (binF gtD (calF lenD [binF ixD (varF 0) (cstF (.int 0))]) (cstF (.int 0)))) (seqS (asgF 3 (binF modD (calF intD [binF ixD (varF 0) (cstF (.int 1))]) (calF lenD [binF ixD (varF 0) (cstF (.int 0))]))) (asgF 2 (binF ixD (binF ixD (varF 0) (cstF (.int 0))) (varF 3)))) (nxF)) (seqS (ifS (tbF (binF geD (varF 2) (binF powD (cstF (.int 10)) (cstF (.int 18))))) (seqS (asgG (tgSub (binF ixD (varF 0) (cstF (.int 0))) (varF 3)) (binF fdivD (calF intD [varF 2]) (varF 1))) (retF (binF modD (calF intD [varF 2]) (varF 1)))) (nxF)) (seqS (asgF 4 (binF addD (binF addD (binF modD (calF intD [varF 2]) (cstF (.int 2147483549))) (binF mulD (cstF (.int 11209)) (binF ixD (varF 0) (cstF (.int 1))))) (cstF (.int 5)))) (retF (binF modD (calF intD [binF modD (calF intD [binF powD (varF 4) (cstF (.int 5))]) (cstF (.int 2147483587))]) (varF 1)))))))
noncomputable abbrev F_x_draw : List D → M D := defF 5 B_x_draw
noncomputable def B_x_one : SM := retF (binF ixD (varF 1) (calF (fun xs => F_x_draw (xs ++ [])) [varF 0, calF lenD [varF 1]]))
noncomputable abbrev F_x_one : List D → M D := defF 2 B_x_one
noncomputable def B_x_rules : SM := seqS (parF [1, 2] [calF (fun xs => F_x_one (xs ++ [])) [varF 0, lstF [cstF (.int 2), cstF (.int 3), cstF (.int 4), cstF (.int 5), cstF (.int 6)]], calF (fun xs => F_x_one (xs ++ [])) [varF 0, lstF [cstF (.str "copy"), cstF (.str "nought")]]]) (seqS (asgF 3 (lstF [tupF [], tupF [cstF (.str "*"), cstF (.str "+"), cstF (.str "-")], tupF [cstF (.str "*"), cstF (.str "+"), cstF (.str "-"), cstF (.str "neg")], tupF [cstF (.str "neg")], tupF [cstF (.str "+")], tupF [cstF (.str "*"), cstF (.str "-")]])) (retF (tupF [varF 1, varF 2, calF (fun xs => F_x_one (xs ++ [])) [varF 0, varF 3]])))
noncomputable abbrev F_x_rules : List D → M D := defF 4 B_x_rules
noncomputable def B_x_number : SM := seqS (parF [1, 2] [binF subD (calF (fun xs => F_x_draw (xs ++ [])) [varF 0, cstF (.int 19)]) (cstF (.int 9)), binF subD (calF (fun xs => F_x_draw (xs ++ [])) [varF 0, cstF (.int 2001)]) (cstF (.int 1000))]) (retF (calF (fun xs => F_x_one (xs ++ [])) [varF 0, lstF [cstF (.int 0), cstF (.int 1), unF negD (cstF (.int 1)), cstF (.int 2), varF 1, varF 1, varF 2, binF addD (binF powD (cstF (.int 10)) (cstF (.int 20))) (varF 2), binF subD (varF 2) (binF powD (cstF (.int 10)) (cstF (.int 39)))]]))
noncomputable abbrev F_x_number : List D → M D := defF 3 B_x_number
noncomputable def E_x_numbers_1 : DL.Frame → M D := calF (fun xs => F_x_number (xs ++ [])) [varF 0]
noncomputable def B_x_numbers : SM := retF (calF tupleD [cmpD [2] (rngF rng1 [varF 1]) (tgName 2) (yesF) (E_x_numbers_1)])
noncomputable abbrev F_x_numbers : List D → M D := defF 3 B_x_numbers
noncomputable def B_x_state : SM := retF (tupF [calF (fun xs => F_x_numbers (xs ++ [])) [varF 0, varF 1], calF (fun xs => F_x_number (xs ++ [])) [varF 0], calF (fun xs => F_x_number (xs ++ [])) [varF 0], varF 2])
noncomputable abbrev F_x_state : List D → M D := defF 3 B_x_state
noncomputable def B_x_mode : SM := retF (calF (fun xs => F_x_one (xs ++ [])) [varF 0, lstF [cstF (.str "free"), cstF (.str "held"), cstF (.str "open")]])
noncomputable abbrev F_x_mode : List D → M D := defF 1 B_x_mode
noncomputable def B_x_key : SM := seqS (asgF 1 (lstF [cstF (.str "enter"), cstF (.str "enter"), cstF (.str "neg"), cstF (.str "swap"), cstF (.str "swap"), cstF (.str "down"), cstF (.str "up"), cstF (.str "last"), cstF (.str "clear"), cstF (.str "put"), cstF (.str "get")])) (retF (calF (fun xs => F_x_one (xs ++ [])) [varF 0, binF addD (lstF [cstF (.str "+"), cstF (.str "+"), cstF (.str "-"), cstF (.str "-"), cstF (.str "*"), cstF (.str "*"), cstF (.str "a"), cstF (.str "b"), cstF (.str "c"), cstF (.str "d"), calF strD [calF (fun xs => F_x_draw (xs ++ [])) [varF 0, cstF (.int 10)]]]) (varF 1)]))
noncomputable abbrev F_x_key : List D → M D := defF 2 B_x_key
noncomputable def L_x_row_1 : SM := seqS (asgF 4 (calF (fun xs => F_x_key (xs ++ [])) [varF 0])) (exprF (metF "list" appD (varF 2) [iteF (andF (tbF (binF eqD (varF 4) (cstF (.str "*")))) (tbF (binF eqD (metF "list" cntD (varF 2) [cstF (.str "*")]) (cstF (.int 3))))) (cstF (.str "+")) (varF 4)]))
noncomputable def B_x_row : SM := seqS (asgF 2 (lstO [])) (seqS (forF (rngF rng1 [calF (fun xs => F_x_draw (xs ++ [])) [varF 0, binF addD (varF 1) (cstF (.int 1))]]) (tgName 3) (L_x_row_1)) (retF (calF tupleD [varF 2])))
noncomputable abbrev F_x_row : List D → M D := defF 5 B_x_row
noncomputable def B_is_integer : SM := retF (andV (unF (isiD "int") (varF 0)) (andV (notV (unF (isiD "bool") (varF 0))) (chF leD leD (varF 1) (varF 0) (varF 2))))
noncomputable abbrev F_is_integer : List D → M D := defF 3 B_is_integer
noncomputable def E_are_keeps_1 : DL.Frame → M D := andV (unF (isiD "str") (varF 3)) (binF inD (varF 3) (cstF (.ctu (K_KEEPING.map .str))))
noncomputable def E_are_keeps_2 : DL.Frame → M D := binF ltD (varF 1) (varF 2)
noncomputable def B_are_keeps : SM := seqS (ifS (orF (notF (tstF (unF (isiD "tuple") (varF 0)))) (notF (tstF (calF allD [cmpD [3] (itF (varF 0)) (tgName 3) (yesF) (E_are_keeps_1)])))) (retF (cstF (.bl false))) (nxF)) (retF (calF allD [cmpD [1, 2] (rngF zipS [varF 0, sliF sliD (varF 0) (some (cstF (.int 1))) none]) (tgTup [tgName 1, tgName 2]) (yesF) (E_are_keeps_2)]))
noncomputable abbrev F_are_keeps : List D → M D := defF 4 B_are_keeps
noncomputable def B_Box_init : SM := seqS (ifS (notF (tstF (calF (fun xs => F_is_integer (xs ++ [])) [varF 1, cstF (.int 2), cstF (.int 6)]))) (badS) (nxF)) (seqS (ifS (orF (notF (tstF (unF (isiD "str") (varF 2)))) (tbF (binF notInD (varF 2) (tupF [cstF (.str "copy"), cstF (.str "nought")])))) (badS) (nxF)) (seqS (ifS (notF (tstF (calF (fun xs => F_are_keeps (xs ++ [])) [varF 3]))) (badS) (nxF)) (asgG (tgAtt ["Box"] "_rules" (varF 0)) (tupF [varF 1, varF 2, varF 3]))))
noncomputable abbrev F_Box_init : List D → M D := defF 4 B_Box_init
noncomputable def B_x_box : SM := retF (makF "Box" (fun xs => F_Box_init (xs ++ [])) [binF ixD (varF 0) (cstF (.int 0)), binF ixD (varF 0) (cstF (.int 1)), binF ixD (varF 0) (cstF (.int 2))])
noncomputable abbrev F_x_box : List D → M D := defF 1 B_x_box
noncomputable def B_x_world : SM := seqS (asgF 3 (dispF [(cstF (.str "rules"), varF 0), (cstF (.str "levels"), calF listD [binF ixD (varF 1) (cstF (.int 0))]), (cstF (.str "last"), binF ixD (varF 1) (cstF (.int 1))), (cstF (.str "memory"), binF ixD (varF 1) (cstF (.int 2))), (cstF (.str "mode"), binF ixD (varF 1) (cstF (.int 3)))])) (seqS (asgG (tgDic (varF 3) (cstF (.str "letters"))) (varF 2)) (retF (varF 3)))
noncomputable abbrev F_x_world : List D → M D := defF 4 B_x_world
noncomputable def B_x_come_in : SM := seqS (asgF 2 (iteF (tbF (binF eqD (binF dgtD (varF 0) (cstF (.str "mode"))) (cstF (.str "held")))) (sliF sliD (binF dgtD (varF 0) (cstF (.str "levels"))) (some (cstF (.int 1))) none) (sliF sliD (binF dgtD (varF 0) (cstF (.str "levels"))) none (some (unF negD (cstF (.int 1))))))) (asgG (tgDic (varF 0) (cstF (.str "levels"))) (binF addD (lstF [varF 1]) (varF 2)))
noncomputable abbrev F_x_come_in : List D → M D := defF 3 B_x_come_in
noncomputable def B_x_move : SM := seqS (asgF 2 (binF dgtD (varF 0) (cstF (.str "levels")))) (ifS (tbF (binF eqD (varF 1) (cstF (.str "swap")))) (asgG (tgDic (varF 0) (cstF (.str "levels"))) (binF addD (lstF [binF ixD (varF 2) (cstF (.int 1)), binF ixD (varF 2) (cstF (.int 0))]) (sliF sliD (varF 2) (some (cstF (.int 2))) none))) (ifS (tbF (binF eqD (varF 1) (cstF (.str "down")))) (asgG (tgDic (varF 0) (cstF (.str "levels"))) (binF addD (sliF sliD (varF 2) (some (cstF (.int 1))) none) (sliF sliD (varF 2) none (some (cstF (.int 1)))))) (ifS (tbF (binF eqD (varF 1) (cstF (.str "up")))) (asgG (tgDic (varF 0) (cstF (.str "levels"))) (binF addD (sliF sliD (varF 2) (some (unF negD (cstF (.int 1)))) none) (sliF sliD (varF 2) none (some (unF negD (cstF (.int 1))))))) (ifS (tbF (binF eqD (varF 1) (cstF (.str "put")))) (asgG (tgDic (varF 0) (cstF (.str "memory"))) (binF ixD (varF 2) (cstF (.int 0)))) (exprF (calF (fun xs => F_x_come_in (xs ++ [])) [varF 0, binF dgtD (varF 0) (iteF (tbF (binF eqD (varF 1) (cstF (.str "last")))) (cstF (.str "last")) (cstF (.str "memory")))]))))))
noncomputable abbrev F_x_move : List D → M D := defF 3 B_x_move
noncomputable def B_x_press : SM := seqS (parF [2, 3] [binF dgtD (varF 0) (cstF (.str "levels")), binF dgtD (varF 0) (cstF (.str "rules"))]) (seqS (ifS (tbF (binF inD (varF 1) (binF ixD (varF 3) (cstF (.int 2))))) (asgG (tgDic (varF 0) (cstF (.str "last"))) (binF ixD (varF 2) (cstF (.int 0)))) (nxF)) (seqS (asgF 4 (cstF (.str "free"))) (seqS (ifS (tbF (binF inD (varF 1) (cstF (.str "0123456789")))) (seqS (asgF 4 (cstF (.str "open"))) (ifS (tbF (binF eqD (binF dgtD (varF 0) (cstF (.str "mode"))) (cstF (.str "open")))) (asgG (tgDic (varF 0) (cstF (.str "levels"))) (binF addD (lstF [binF addD (binF mulD (cstF (.int 10)) (binF ixD (varF 2) (cstF (.int 0)))) (calF intD [varF 1])]) (sliF sliD (varF 2) (some (cstF (.int 1))) none))) (exprF (calF (fun xs => F_x_come_in (xs ++ [])) [varF 0, calF intD [varF 1]])))) (ifS (tbF (binF inD (varF 1) (cstF (.str "abcd")))) (exprF (calF (fun xs => F_x_come_in (xs ++ [])) [varF 0, binF ixD (binF dgtD (varF 0) (cstF (.str "letters"))) (metF "str" sixD (cstF (.str "abcd")) [varF 1])])) (ifS (tbF (binF inD (varF 1) (lstF [cstF (.str "enter"), cstF (.str "clear")]))) (seqS (asgF 4 (cstF (.str "held"))) (asgG (tgDic (varF 0) (cstF (.str "levels"))) (iteF (tbF (binF eqD (varF 1) (cstF (.str "enter")))) (binF addD (lstF [binF ixD (varF 2) (cstF (.int 0))]) (sliF sliD (varF 2) none (some (unF negD (cstF (.int 1)))))) (binF addD (lstF [cstF (.int 0)]) (sliF sliD (varF 2) (some (cstF (.int 1))) none))))) (ifS (tbF (binF inD (varF 1) (lstF [cstF (.str "+"), cstF (.str "-"), cstF (.str "*")]))) (seqS (parF [5, 6] [binF ixD (varF 2) (cstF (.int 0)), binF ixD (varF 2) (cstF (.int 1))]) (seqS (asgF 7 (binF dgtD (dispF [(cstF (.str "+"), binF addD (varF 6) (varF 5)), (cstF (.str "-"), binF subD (varF 6) (varF 5)), (cstF (.str "*"), binF mulD (varF 6) (varF 5))]) (varF 1))) (asgG (tgDic (varF 0) (cstF (.str "levels"))) (binF addD (binF addD (lstF [varF 7]) (sliF sliD (varF 2) (some (cstF (.int 2))) none)) (lstF [iteF (tbF (binF eqD (binF ixD (varF 3) (cstF (.int 1))) (cstF (.str "copy")))) (binF ixD (varF 2) (unF negD (cstF (.int 1)))) (cstF (.int 0))]))))) (ifS (tbF (binF eqD (varF 1) (cstF (.str "neg")))) (asgG (tgDic (varF 0) (cstF (.str "levels"))) (binF addD (lstF [binF subD (cstF (.int 0)) (binF ixD (varF 2) (cstF (.int 0)))]) (sliF sliD (varF 2) (some (cstF (.int 1))) none))) (exprF (calF (fun xs => F_x_move (xs ++ [])) [varF 0, varF 1]))))))) (asgG (tgDic (varF 0) (cstF (.str "mode"))) (varF 4)))))
noncomputable abbrev F_x_press : List D → M D := defF 8 B_x_press
noncomputable def L_x_run_1 : SM := exprF (calF (fun xs => F_x_press (xs ++ [])) [varF 4, varF 5])
noncomputable def B_x_run : SM := seqS (asgF 4 (calF (fun xs => F_x_world (xs ++ [])) [varF 0, varF 1, varF 3])) (seqS (forF (itF (varF 2)) (tgName 5) (L_x_run_1)) (retF (tupF [calF tupleD [binF dgtD (varF 4) (cstF (.str "levels"))], binF dgtD (varF 4) (cstF (.str "last")), binF dgtD (varF 4) (cstF (.str "memory")), binF dgtD (varF 4) (cstF (.str "mode"))])))
noncomputable abbrev F_x_run : List D → M D := defF 6 B_x_run
noncomputable def B_Machine_init : SM := seqS (asgG (tgAtt ["Machine"] "rules" (varF 0)) (varF 1)) (seqS (asgG (tgTup [tgAtt ["Machine"] "stack" (varF 0), tgAtt ["Machine"] "kept" (varF 0), tgAtt ["Machine"] "store" (varF 0), tgAtt ["Machine"] "way" (varF 0)]) (varF 2)) (seqS (asgG (tgAtt ["Machine"] "keyed" (varF 0)) (varF 3)) (asgG (tgAtt ["Machine"] "arithmetic" (varF 0)) (varF 4))))
noncomputable abbrev F_Machine_init : List D → M D := defF 5 B_Machine_init
noncomputable def B_Whole_constant : SM := retF (varF 1)
noncomputable abbrev F_Whole_constant : List D → M D := defF 2 B_Whole_constant
noncomputable def B_Whole_times : SM := retF (binF mulD (varF 1) (varF 2))
noncomputable abbrev F_Whole_times : List D → M D := defF 3 B_Whole_times
noncomputable def B_Whole_plus : SM := retF (binF addD (varF 1) (varF 2))
noncomputable abbrev F_Whole_plus : List D → M D := defF 3 B_Whole_plus
noncomputable def B_Machine_come_in : SM := ifS (tbF (binF eqD (fldF ["Machine"] "way" (varF 0)) (cstF (.str "held")))) (asgG (tgAtt ["Machine"] "stack" (varF 0)) (binF addD (tupF [varF 1]) (sliF sliD (fldF ["Machine"] "stack" (varF 0)) (some (cstF (.int 1))) none))) (asgG (tgAtt ["Machine"] "stack" (varF 0)) (binF addD (tupF [varF 1]) (sliF sliD (fldF ["Machine"] "stack" (varF 0)) none (some (unF negD (cstF (.int 1)))))))
noncomputable abbrev F_Machine_come_in : List D → M D := defF 2 B_Machine_come_in
noncomputable def B_Machine_press_digit : SM := seqS (asgF 2 (mtdF "constant" [("Whole", fun xs => F_Whole_constant (xs ++ []))] (fldF ["Machine"] "arithmetic" (varF 0)) [varF 1])) (seqS (ifS (tbF (binF eqD (fldF ["Machine"] "way" (varF 0)) (cstF (.str "open")))) (seqS (asgF 3 (mtdF "constant" [("Whole", fun xs => F_Whole_constant (xs ++ []))] (fldF ["Machine"] "arithmetic" (varF 0)) [cstF (.int 10)])) (seqS (asgF 4 (mtdF "plus" [("Whole", fun xs => F_Whole_plus (xs ++ []))] (fldF ["Machine"] "arithmetic" (varF 0)) [mtdF "times" [("Whole", fun xs => F_Whole_times (xs ++ []))] (fldF ["Machine"] "arithmetic" (varF 0)) [varF 3, binF ixD (fldF ["Machine"] "stack" (varF 0)) (cstF (.int 0))], varF 2])) (asgG (tgAtt ["Machine"] "stack" (varF 0)) (binF addD (tupF [varF 4]) (sliF sliD (fldF ["Machine"] "stack" (varF 0)) (some (cstF (.int 1))) none))))) (exprF (mtdF "come_in" [("Machine", fun xs => F_Machine_come_in (xs ++ []))] (varF 0) [varF 2]))) (asgG (tgAtt ["Machine"] "way" (varF 0)) (cstF (.str "open"))))
noncomputable abbrev F_Machine_press_digit : List D → M D := defF 5 B_Machine_press_digit
noncomputable def B_Box_keeps : SM := retF (binF ixD (fldF ["Box"] "_rules" (varF 0)) (cstF (.int 2)))
noncomputable abbrev F_Box_keeps : List D → M D := defF 1 B_Box_keeps
noncomputable def B_Whole_minus : SM := retF (binF subD (varF 1) (varF 2))
noncomputable abbrev F_Whole_minus : List D → M D := defF 3 B_Whole_minus
noncomputable def B_Box_deepest : SM := retF (binF ixD (fldF ["Box"] "_rules" (varF 0)) (cstF (.int 1)))
noncomputable abbrev F_Box_deepest : List D → M D := defF 1 B_Box_deepest
noncomputable def B_Machine_press_sign : SM := seqS (parF [2, 3] [binF ixD (fldF ["Machine"] "stack" (varF 0)) (cstF (.int 0)), binF ixD (fldF ["Machine"] "stack" (varF 0)) (cstF (.int 1))]) (seqS (ifS (tbF (binF eqD (varF 1) (cstF (.str "+")))) (asgF 4 (mtdF "plus" [("Whole", fun xs => F_Whole_plus (xs ++ []))] (fldF ["Machine"] "arithmetic" (varF 0)) [varF 3, varF 2])) (ifS (tbF (binF eqD (varF 1) (cstF (.str "-")))) (asgF 4 (mtdF "minus" [("Whole", fun xs => F_Whole_minus (xs ++ []))] (fldF ["Machine"] "arithmetic" (varF 0)) [varF 3, varF 2])) (asgF 4 (mtdF "times" [("Whole", fun xs => F_Whole_times (xs ++ []))] (fldF ["Machine"] "arithmetic" (varF 0)) [varF 3, varF 2])))) (seqS (asgF 5 (iteF (tbF (binF eqD (prpF [("Box", F_Box_deepest)] (fldF ["Machine"] "rules" (varF 0))) (cstF (.str "copy")))) (binF ixD (fldF ["Machine"] "stack" (varF 0)) (unF negD (cstF (.int 1)))) (mtdF "constant" [("Whole", fun xs => F_Whole_constant (xs ++ []))] (fldF ["Machine"] "arithmetic" (varF 0)) [cstF (.int 0)]))) (asgG (tgAtt ["Machine"] "stack" (varF 0)) (binF addD (binF addD (tupF [varF 4]) (sliF sliD (fldF ["Machine"] "stack" (varF 0)) (some (cstF (.int 2))) none)) (tupF [varF 5])))))
noncomputable abbrev F_Machine_press_sign : List D → M D := defF 6 B_Machine_press_sign
noncomputable def B_Machine_press_mover : SM := ifS (tbF (binF eqD (varF 1) (cstF (.str "swap")))) (asgG (tgAtt ["Machine"] "stack" (varF 0)) (binF addD (tupF [binF ixD (fldF ["Machine"] "stack" (varF 0)) (cstF (.int 1)), binF ixD (fldF ["Machine"] "stack" (varF 0)) (cstF (.int 0))]) (sliF sliD (fldF ["Machine"] "stack" (varF 0)) (some (cstF (.int 2))) none))) (ifS (tbF (binF eqD (varF 1) (cstF (.str "down")))) (asgG (tgAtt ["Machine"] "stack" (varF 0)) (binF addD (sliF sliD (fldF ["Machine"] "stack" (varF 0)) (some (cstF (.int 1))) none) (sliF sliD (fldF ["Machine"] "stack" (varF 0)) none (some (cstF (.int 1)))))) (ifS (tbF (binF eqD (varF 1) (cstF (.str "up")))) (asgG (tgAtt ["Machine"] "stack" (varF 0)) (binF addD (sliF sliD (fldF ["Machine"] "stack" (varF 0)) (some (unF negD (cstF (.int 1)))) none) (sliF sliD (fldF ["Machine"] "stack" (varF 0)) none (some (unF negD (cstF (.int 1))))))) (ifS (tbF (binF eqD (varF 1) (cstF (.str "last")))) (exprF (mtdF "come_in" [("Machine", fun xs => F_Machine_come_in (xs ++ []))] (varF 0) [fldF ["Machine"] "kept" (varF 0)])) (ifS (tbF (binF eqD (varF 1) (cstF (.str "put")))) (asgG (tgAtt ["Machine"] "store" (varF 0)) (binF ixD (fldF ["Machine"] "stack" (varF 0)) (cstF (.int 0)))) (exprF (mtdF "come_in" [("Machine", fun xs => F_Machine_come_in (xs ++ []))] (varF 0) [fldF ["Machine"] "store" (varF 0)]))))))
noncomputable abbrev F_Machine_press_mover : List D → M D := defF 2 B_Machine_press_mover
noncomputable def B_Machine_press : SM := seqS (ifS (tbF (binF inD (varF 1) (cstF (.str "0123456789")))) (seqS (exprF (mtdF "press_digit" [("Machine", fun xs => F_Machine_press_digit (xs ++ []))] (varF 0) [calF intD [varF 1]])) (retN)) (nxF)) (seqS (ifS (tbF (binF eqD (varF 1) (cstF (.str "enter")))) (seqS (asgG (tgAtt ["Machine"] "stack" (varF 0)) (binF addD (sliF sliD (fldF ["Machine"] "stack" (varF 0)) none (some (cstF (.int 1)))) (sliF sliD (fldF ["Machine"] "stack" (varF 0)) none (some (unF negD (cstF (.int 1))))))) (seqS (asgG (tgAtt ["Machine"] "way" (varF 0)) (cstF (.str "held"))) (retN))) (nxF)) (seqS (ifS (tbF (binF eqD (varF 1) (cstF (.str "clear")))) (seqS (asgG (tgAtt ["Machine"] "stack" (varF 0)) (binF addD (tupF [mtdF "constant" [("Whole", fun xs => F_Whole_constant (xs ++ []))] (fldF ["Machine"] "arithmetic" (varF 0)) [cstF (.int 0)]]) (sliF sliD (fldF ["Machine"] "stack" (varF 0)) (some (cstF (.int 1))) none))) (seqS (asgG (tgAtt ["Machine"] "way" (varF 0)) (cstF (.str "held"))) (retN))) (nxF)) (seqS (ifS (tbF (binF inD (varF 1) (prpF [("Box", F_Box_keeps)] (fldF ["Machine"] "rules" (varF 0))))) (asgG (tgAtt ["Machine"] "kept" (varF 0)) (binF ixD (fldF ["Machine"] "stack" (varF 0)) (cstF (.int 0)))) (nxF)) (seqS (ifS (tbF (binF inD (varF 1) (cstF (.str "abcd")))) (exprF (mtdF "come_in" [("Machine", fun xs => F_Machine_come_in (xs ++ []))] (varF 0) [binF ixD (fldF ["Machine"] "keyed" (varF 0)) (metF "str" sixD (cstF (.str "abcd")) [varF 1])])) (ifS (tbF (binF inD (varF 1) (tupF [cstF (.str "+"), cstF (.str "-"), cstF (.str "*")]))) (exprF (mtdF "press_sign" [("Machine", fun xs => F_Machine_press_sign (xs ++ []))] (varF 0) [varF 1])) (ifS (tbF (binF eqD (varF 1) (cstF (.str "neg")))) (asgG (tgAtt ["Machine"] "stack" (varF 0)) (binF addD (tupF [mtdF "minus" [("Whole", fun xs => F_Whole_minus (xs ++ []))] (fldF ["Machine"] "arithmetic" (varF 0)) [mtdF "constant" [("Whole", fun xs => F_Whole_constant (xs ++ []))] (fldF ["Machine"] "arithmetic" (varF 0)) [cstF (.int 0)], binF ixD (fldF ["Machine"] "stack" (varF 0)) (cstF (.int 0))]]) (sliF sliD (fldF ["Machine"] "stack" (varF 0)) (some (cstF (.int 1))) none))) (exprF (mtdF "press_mover" [("Machine", fun xs => F_Machine_press_mover (xs ++ []))] (varF 0) [varF 1]))))) (asgG (tgAtt ["Machine"] "way" (varF 0)) (cstF (.str "free")))))))
noncomputable abbrev F_Machine_press : List D → M D := defF 2 B_Machine_press
noncomputable def B_Machine_parts : SM := retF (tupF [fldF ["Machine"] "stack" (varF 0), fldF ["Machine"] "kept" (varF 0), fldF ["Machine"] "store" (varF 0), fldF ["Machine"] "way" (varF 0)])
noncomputable abbrev F_Machine_parts : List D → M D := defF 1 B_Machine_parts
noncomputable def L_run_1 : SM := exprF (mtdF "press" [("Machine", fun xs => F_Machine_press (xs ++ []))] (varF 4) [varF 5])
noncomputable def B_run : SM := seqS (asgF 4 (makF "Machine" (fun xs => F_Machine_init (xs ++ [])) [varF 0, varF 1, varF 3, makO "Whole"])) (seqS (forF (itF (varF 2)) (tgName 5) (L_run_1)) (retF (mtdF "parts" [("Machine", fun xs => F_Machine_parts (xs ++ []))] (varF 4) [])))
noncomputable abbrev F_run : List D → M D := defF 6 B_run
noncomputable def L_shown_1 : SM := seqS (exprF (mtdF "press" [("Machine", fun xs => F_Machine_press (xs ++ []))] (varF 4) [varF 6])) (exprF (metF "list" appD (varF 5) [binF ixD (fldF ["Machine"] "stack" (varF 4)) (cstF (.int 0))]))
noncomputable def B_shown : SM := seqS (asgF 4 (makF "Machine" (fun xs => F_Machine_init (xs ++ [])) [varF 0, varF 1, varF 3, makO "Whole"])) (seqS (asgF 5 (lstO [])) (seqS (forF (itF (varF 2)) (tgName 6) (L_shown_1)) (retF (calF tupleD [varF 5]))))
noncomputable abbrev F_shown : List D → M D := defF 7 B_shown

/-! ### the machine with whole numbers -/
def mf (b : Nat) (s : St) (l : D) (a : Nat) : List (Str × D) := [("rules", .ob b), ("stack", .tup (s.lv.map .int)), ("kept", .int s.kp), ("store", .int s.mem), ("way", .str s.way), ("keyed", l), ("arithmetic", .ob a)]
def bf (size : Int) (deep : Str) (ks : List Str) : List (Str × D) := [("_rules", .tup [.int size, .str deep, .tup (ks.map .str)])]
section
variable {b a : Nat} {s : St} {l : D} {x : List Int} {i : Int} {w : Str} {size : Int} {deep : Str} {ks : List Str}
end
/-- the objects that a machine looks at -/
structure Mch (S0 : Store) (o b a : Nat) (size : Int) (deep : Str) (ks : List Str) : Prop where
  lt : o < S0.length
  nb : o ≠ b
  na : o ≠ a
  box : S0[b]? = some (some (.ins "Box" (bf size deep ks)))
  ar : S0[a]? = some (some (.ins "Whole" []))
  sub : ∀ k ∈ ks, k ∈ KEEPS
local macro_rules | `(tactic| and_intros) => `(tactic| repeat (first | with_reducible refine StpA.go ?_ | with_reducible refine StpB.go ?_ | ((with_reducible refine Ok.var ?_); refine ⟨_, rfl, ?_⟩) | ((with_reducible refine Fr.go ?_); intro fr_ e_; simp only [List.set_cons_zero, List.set_cons_succ, setAll, wipeF] at e_; subst e_) | ((with_reducible refine Ok.fldM ?_ ?_ ?_); (assumption); (exact c_M); (first | refine ⟨_, g_stack, ?_⟩ | refine ⟨_, g_kept, ?_⟩ | refine ⟨_, g_store, ?_⟩ | refine ⟨_, g_way, ?_⟩ | refine ⟨_, g_keyed, ?_⟩ | refine ⟨_, g_arith, ?_⟩ | refine ⟨_, g_rules, ?_⟩)) | ((with_reducible refine Ok.setM ?_ ?_ ?_ ?_); (assumption); (exact c_M); (exact mf_len); (first | refine ⟨_, p_stack, ?_⟩ | refine ⟨_, p_kept, ?_⟩ | refine ⟨_, p_store, ?_⟩ | refine ⟨_, p_way, ?_⟩)) | with_reducible refine Ok.sl_d1 ?_ | with_reducible refine Ok.sl_d2 ?_ | with_reducible refine Ok.sl_t1 ?_ | with_reducible refine Ok.sl_dl ?_ | with_reducible refine Ok.sl_l1 ?_ | ((with_reducible refine Ok.ad_1m ?_ ?_); (simp; omega)) | ((with_reducible refine Ok.ad_2m ?_ ?_); (simp; omega)) | ((with_reducible refine Ok.ad_m1 ?_ ?_); (simp; omega)) | ((with_reducible refine Ok.ad_mm ?_ ?_); (simp; omega)) | ((with_reducible refine Ok.ixm0 ?_ ?_); (omega)) | ((with_reducible refine Ok.ixm1 ?_ ?_); (omega)) | ((with_reducible refine Ok.ixm9 ?_ ?_); (omega)) | with_reducible refine Ok.sli_tail ?_ | ((with_reducible refine OkS.aug ?_); refine ⟨_, rfl, ?_⟩) | ((with_reducible refine Ok.ix_t ?_); refine ⟨_, rfl, ?_⟩) | ((with_reducible refine Ok.ix_l ?_); refine ⟨_, rfl, ?_⟩) | ((with_reducible refine Ok.tgT ?_ ?_); exact rfl) | with_reducible refine Ok.sli_t ?_ | with_reducible refine Ok.sli_l ?_ | ((with_reducible refine Ok.mod_ii ?_ ?_); (first | decide | (simp; done) | (simp; omega))) | ((with_reducible refine Ok.add_tt ?_ ?_); (first | decide | (simp; done) | (simp; omega))) | ((with_reducible refine Ok.add_ll ?_ ?_); (first | decide | (simp; done) | (simp; omega))) | ((with_reducible refine Ok.add_ss ?_ ?_); (first | decide | (simp; done) | (simp; omega))) | ((with_reducible refine Ok.rng1 ?_ ?_); (first | decide | omega | (simp; omega))) | ((with_reducible refine Br.dt ?_ ?_); (first | assumption | exact rfl | omega | decide +kernel)) | ((with_reducible refine Br.df ?_ ?_); (first | assumption | omega | decide +kernel)) | ((with_reducible refine Br.tt ?_ ?_); (first | assumption | decide +kernel)) | ((with_reducible refine Br.ff ?_ ?_); (first | assumption | decide +kernel)) | ((with_reducible refine Ok.isi_tup (p := true) ?_ ?_); decide +kernel) | ((with_reducible refine Ok.isi_tup (p := false) ?_ ?_); decide +kernel) | ((with_reducible refine Ok.isi_int (p := true) ?_ ?_); decide +kernel) | ((with_reducible refine Ok.isi_int (p := false) ?_ ?_); decide +kernel) | ((with_reducible refine Ok.isi_str (p := true) ?_ ?_); decide +kernel) | ((with_reducible refine Ok.isi_str (p := false) ?_ ?_); decide +kernel) | ((with_reducible refine Ok.isi_lst (p := true) ?_ ?_); decide +kernel) | ((with_reducible refine Ok.isi_lst (p := false) ?_ ?_); decide +kernel) | ((with_reducible refine Ok.isi_bl (p := true) ?_ ?_); decide +kernel) | ((with_reducible refine Ok.isi_bl (p := false) ?_ ?_); decide +kernel) | ((with_reducible refine Ok.isi_non (p := true) ?_ ?_); decide +kernel) | ((with_reducible refine Ok.isi_non (p := false) ?_ ?_); decide +kernel) | ((with_reducible refine Ok.isi_ctu (p := true) ?_ ?_); decide +kernel) | ((with_reducible refine Ok.isi_ctu (p := false) ?_ ?_); decide +kernel) | ((with_reducible refine Ok.isi_emp (p := true) ?_ ?_); decide +kernel) | ((with_reducible refine Ok.isi_emp (p := false) ?_ ?_); decide +kernel)))
section
variable {S0 : Store} {o b a : Nat} {size : Int} {deep : Str} {ks : List Str} {s : St} {l : D} {i : Int}
/-- the store with this machine -/
def stM (S0 : Store) (o b a : Nat) (l : D) (s : St) : Store := S0.set o (some (.ins "Machine" (mf b s l a)))
local macro_rules | `(tactic| and_intros) => `(tactic| repeat (first | with_reducible refine StpA.go ?_ | with_reducible refine StpB.go ?_ | ((with_reducible refine Ok.var ?_); refine ⟨_, rfl, ?_⟩) | ((with_reducible refine Fr.go ?_); intro fr_ e_; simp only [List.set_cons_zero, List.set_cons_succ, setAll, wipeF] at e_; subst e_) | ((with_reducible refine Ok.fldM ?_ ?_ ?_); (assumption); (exact c_M); (first | refine ⟨_, g_stack, ?_⟩ | refine ⟨_, g_kept, ?_⟩ | refine ⟨_, g_store, ?_⟩ | refine ⟨_, g_way, ?_⟩ | refine ⟨_, g_keyed, ?_⟩ | refine ⟨_, g_arith, ?_⟩ | refine ⟨_, g_rules, ?_⟩)) | ((with_reducible refine Ok.setM ?_ ?_ ?_ ?_); (assumption); (exact c_M); (exact mf_len); (first | refine ⟨_, p_stack, ?_⟩ | refine ⟨_, p_kept, ?_⟩ | refine ⟨_, p_store, ?_⟩ | refine ⟨_, p_way, ?_⟩)) | with_reducible refine Ok.sl_d1 ?_ | with_reducible refine Ok.sl_d2 ?_ | with_reducible refine Ok.sl_t1 ?_ | with_reducible refine Ok.sl_dl ?_ | with_reducible refine Ok.sl_l1 ?_ | ((with_reducible refine Ok.ad_1m ?_ ?_); (simp; omega)) | ((with_reducible refine Ok.ad_2m ?_ ?_); (simp; omega)) | ((with_reducible refine Ok.ad_m1 ?_ ?_); (simp; omega)) | ((with_reducible refine Ok.ad_mm ?_ ?_); (simp; omega)) | ((with_reducible refine Ok.ixm0 ?_ ?_); (omega)) | ((with_reducible refine Ok.ixm1 ?_ ?_); (omega)) | ((with_reducible refine Ok.ixm9 ?_ ?_); (omega)) | with_reducible refine const_ ?_ | with_reducible refine plus_ ?_ | with_reducible refine minus_ ?_ | with_reducible refine Ok.mtd1 ?_ | with_reducible refine Ok.prp1 ?_ | refine ⟨_, _, rfl, (List.getElem?_set_ne (by assumption)).trans (by assumption), rfl, ?_⟩ | refine ⟨_, _, rfl, List.getElem?_set_self (by assumption), rfl, ?_⟩ | with_reducible refine Ok.sli_tail ?_ | ((with_reducible refine OkS.aug ?_); refine ⟨_, rfl, ?_⟩) | ((with_reducible refine Ok.ix_t ?_); refine ⟨_, rfl, ?_⟩) | ((with_reducible refine Ok.ix_l ?_); refine ⟨_, rfl, ?_⟩) | ((with_reducible refine Ok.tgT ?_ ?_); exact rfl) | with_reducible refine Ok.sli_t ?_ | with_reducible refine Ok.sli_l ?_ | ((with_reducible refine Ok.mod_ii ?_ ?_); (first | decide | (simp; done) | (simp; omega))) | ((with_reducible refine Ok.add_tt ?_ ?_); (first | decide | (simp; done) | (simp; omega))) | ((with_reducible refine Ok.add_ll ?_ ?_); (first | decide | (simp; done) | (simp; omega))) | ((with_reducible refine Ok.add_ss ?_ ?_); (first | decide | (simp; done) | (simp; omega))) | ((with_reducible refine Ok.rng1 ?_ ?_); (first | decide | omega | (simp; omega))) | ((with_reducible refine Br.dt ?_ ?_); (first | assumption | exact rfl | omega | decide +kernel)) | ((with_reducible refine Br.df ?_ ?_); (first | assumption | omega | decide +kernel)) | ((with_reducible refine Br.tt ?_ ?_); (first | assumption | decide +kernel)) | ((with_reducible refine Br.ff ?_ ?_); (first | assumption | decide +kernel)) | ((with_reducible refine Ok.isi_tup (p := true) ?_ ?_); decide +kernel) | ((with_reducible refine Ok.isi_tup (p := false) ?_ ?_); decide +kernel) | ((with_reducible refine Ok.isi_int (p := true) ?_ ?_); decide +kernel) | ((with_reducible refine Ok.isi_int (p := false) ?_ ?_); decide +kernel) | ((with_reducible refine Ok.isi_str (p := true) ?_ ?_); decide +kernel) | ((with_reducible refine Ok.isi_str (p := false) ?_ ?_); decide +kernel) | ((with_reducible refine Ok.isi_lst (p := true) ?_ ?_); decide +kernel) | ((with_reducible refine Ok.isi_lst (p := false) ?_ ?_); decide +kernel) | ((with_reducible refine Ok.isi_bl (p := true) ?_ ?_); decide +kernel) | ((with_reducible refine Ok.isi_bl (p := false) ?_ ?_); decide +kernel) | ((with_reducible refine Ok.isi_non (p := true) ?_ ?_); decide +kernel) | ((with_reducible refine Ok.isi_non (p := false) ?_ ?_); decide +kernel) | ((with_reducible refine Ok.isi_ctu (p := true) ?_ ?_); decide +kernel) | ((with_reducible refine Ok.isi_ctu (p := false) ?_ ?_); decide +kernel) | ((with_reducible refine Ok.isi_emp (p := true) ?_ ?_); decide +kernel) | ((with_reducible refine Ok.isi_emp (p := false) ?_ ?_); decide +kernel)))
local macro_rules | `(tactic| and_intros) => `(tactic| repeat (first | with_reducible refine StpA.go ?_ | with_reducible refine StpB.go ?_ | ((with_reducible refine Ok.var ?_); refine ⟨_, rfl, ?_⟩) | ((with_reducible refine Fr.go ?_); intro fr_ e_; simp only [List.set_cons_zero, List.set_cons_succ, setAll, wipeF] at e_; subst e_) | ((with_reducible refine Ok.fldM ?_ ?_ ?_); (assumption); (exact c_M); (first | refine ⟨_, g_stack, ?_⟩ | refine ⟨_, g_kept, ?_⟩ | refine ⟨_, g_store, ?_⟩ | refine ⟨_, g_way, ?_⟩ | refine ⟨_, g_keyed, ?_⟩ | refine ⟨_, g_arith, ?_⟩ | refine ⟨_, g_rules, ?_⟩)) | ((with_reducible refine Ok.setM ?_ ?_ ?_ ?_); (assumption); (exact c_M); (exact mf_len); (first | refine ⟨_, p_stack, ?_⟩ | refine ⟨_, p_kept, ?_⟩ | refine ⟨_, p_store, ?_⟩ | refine ⟨_, p_way, ?_⟩)) | with_reducible refine Ok.sl_d1 ?_ | with_reducible refine Ok.sl_d2 ?_ | with_reducible refine Ok.sl_t1 ?_ | with_reducible refine Ok.sl_dl ?_ | with_reducible refine Ok.sl_l1 ?_ | ((with_reducible refine Ok.ad_1m ?_ ?_); (simp; omega)) | ((with_reducible refine Ok.ad_2m ?_ ?_); (simp; omega)) | ((with_reducible refine Ok.ad_m1 ?_ ?_); (simp; omega)) | ((with_reducible refine Ok.ad_mm ?_ ?_); (simp; omega)) | ((with_reducible refine Ok.ixm0 ?_ ?_); (omega)) | ((with_reducible refine Ok.ixm1 ?_ ?_); (omega)) | ((with_reducible refine Ok.ixm9 ?_ ?_); (omega)) | with_reducible refine const_ ?_ | with_reducible refine plus_ ?_ | with_reducible refine minus_ ?_ | with_reducible refine Ok.mtd1 ?_ | with_reducible refine Ok.prp1 ?_ | refine ⟨_, _, rfl, (List.getElem?_set_ne (by assumption)).trans (by assumption), rfl, ?_⟩ | refine ⟨_, _, rfl, List.getElem?_set_self (by assumption), rfl, ?_⟩ | refine ⟨_, _, rfl, (List.getElem?_set_ne (by assumption)).trans (by assumption), ?_⟩ | with_reducible refine deepest_ ((List.getElem?_set_ne (by assumption)).trans (by assumption)) ?_ | with_reducible refine keeps_ ((List.getElem?_set_ne (by assumption)).trans (by assumption)) ?_ | with_reducible refine Ok.sli_tail ?_ | ((with_reducible refine OkS.aug ?_); refine ⟨_, rfl, ?_⟩) | ((with_reducible refine Ok.ix_t ?_); refine ⟨_, rfl, ?_⟩) | ((with_reducible refine Ok.ix_l ?_); refine ⟨_, rfl, ?_⟩) | ((with_reducible refine Ok.tgT ?_ ?_); exact rfl) | with_reducible refine Ok.sli_t ?_ | with_reducible refine Ok.sli_l ?_ | ((with_reducible refine Ok.mod_ii ?_ ?_); (first | decide | (simp; done) | (simp; omega))) | ((with_reducible refine Ok.add_tt ?_ ?_); (first | decide | (simp; done) | (simp; omega))) | ((with_reducible refine Ok.add_ll ?_ ?_); (first | decide | (simp; done) | (simp; omega))) | ((with_reducible refine Ok.add_ss ?_ ?_); (first | decide | (simp; done) | (simp; omega))) | ((with_reducible refine Ok.rng1 ?_ ?_); (first | decide | omega | (simp; omega))) | ((with_reducible refine Br.dt ?_ ?_); (first | assumption | exact rfl | omega | decide +kernel)) | ((with_reducible refine Br.df ?_ ?_); (first | assumption | omega | decide +kernel)) | ((with_reducible refine Br.tt ?_ ?_); (first | assumption | decide +kernel)) | ((with_reducible refine Br.ff ?_ ?_); (first | assumption | decide +kernel)) | ((with_reducible refine Ok.isi_tup (p := true) ?_ ?_); decide +kernel) | ((with_reducible refine Ok.isi_tup (p := false) ?_ ?_); decide +kernel) | ((with_reducible refine Ok.isi_int (p := true) ?_ ?_); decide +kernel) | ((with_reducible refine Ok.isi_int (p := false) ?_ ?_); decide +kernel) | ((with_reducible refine Ok.isi_str (p := true) ?_ ?_); decide +kernel) | ((with_reducible refine Ok.isi_str (p := false) ?_ ?_); decide +kernel) | ((with_reducible refine Ok.isi_lst (p := true) ?_ ?_); decide +kernel) | ((with_reducible refine Ok.isi_lst (p := false) ?_ ?_); decide +kernel) | ((with_reducible refine Ok.isi_bl (p := true) ?_ ?_); decide +kernel) | ((with_reducible refine Ok.isi_bl (p := false) ?_ ?_); decide +kernel) | ((with_reducible refine Ok.isi_non (p := true) ?_ ?_); decide +kernel) | ((with_reducible refine Ok.isi_non (p := false) ?_ ?_); decide +kernel) | ((with_reducible refine Ok.isi_ctu (p := true) ?_ ?_); decide +kernel) | ((with_reducible refine Ok.isi_ctu (p := false) ?_ ?_); decide +kernel) | ((with_reducible refine Ok.isi_emp (p := true) ?_ ?_); decide +kernel) | ((with_reducible refine Ok.isi_emp (p := false) ?_ ?_); decide +kernel)))
def bnds (B : Nat) (s : St) : Prop := (∀ x ∈ s.lv, Int.natAbs x < 10 ^ B) ∧ Int.natAbs s.kp < 10 ^ B ∧ Int.natAbs s.mem < 10 ^ B
end
end DL.Lb
namespace DL.Lb
open PySem PySem.Spec PyProof.Rows L2 DL
local macro_rules | `(tactic| and_intros) => `(tactic| repeat (first | with_reducible refine StpA.go ?_ | with_reducible refine StpB.go ?_ | ((with_reducible refine Ok.var ?_); refine ⟨_, rfl, ?_⟩) | ((with_reducible refine Fr.go ?_); intro fr_ e_; simp only [List.set_cons_zero, List.set_cons_succ, setAll, wipeF] at e_; subst e_) | ((with_reducible refine Ok.fldM ?_ ?_ ?_); (assumption); (exact c_M); (first | refine ⟨_, g_stack, ?_⟩ | refine ⟨_, g_kept, ?_⟩ | refine ⟨_, g_store, ?_⟩ | refine ⟨_, g_way, ?_⟩ | refine ⟨_, g_keyed, ?_⟩ | refine ⟨_, g_arith, ?_⟩ | refine ⟨_, g_rules, ?_⟩)) | ((with_reducible refine Ok.setM ?_ ?_ ?_ ?_); (assumption); (exact c_M); (exact mf_len); (first | refine ⟨_, p_stack, ?_⟩ | refine ⟨_, p_kept, ?_⟩ | refine ⟨_, p_store, ?_⟩ | refine ⟨_, p_way, ?_⟩)) | with_reducible refine Ok.sl_d1 ?_ | with_reducible refine Ok.sl_d2 ?_ | with_reducible refine Ok.sl_t1 ?_ | with_reducible refine Ok.sl_dl ?_ | with_reducible refine Ok.sl_l1 ?_ | ((with_reducible refine Ok.ad_1m ?_ ?_); (simp; omega)) | ((with_reducible refine Ok.ad_2m ?_ ?_); (simp; omega)) | ((with_reducible refine Ok.ad_m1 ?_ ?_); (simp; omega)) | ((with_reducible refine Ok.ad_mm ?_ ?_); (simp; omega)) | ((with_reducible refine Ok.ixm0 ?_ ?_); (omega)) | ((with_reducible refine Ok.ixm1 ?_ ?_); (omega)) | ((with_reducible refine Ok.ixm9 ?_ ?_); (omega)) | with_reducible refine const_ ?_ | with_reducible refine plus_ ?_ | with_reducible refine minus_ ?_ | with_reducible refine Ok.mtd1 ?_ | with_reducible refine Ok.prp1 ?_ | refine ⟨_, _, rfl, (List.getElem?_set_ne (by assumption)).trans (by assumption), rfl, ?_⟩ | refine ⟨_, _, rfl, List.getElem?_set_self (by assumption), rfl, ?_⟩ | refine ⟨_, _, rfl, (List.getElem?_set_ne (by assumption)).trans (by assumption), ?_⟩ | with_reducible refine deepest_ ((List.getElem?_set_ne (by assumption)).trans (by assumption)) ?_ | with_reducible refine keeps_ ((List.getElem?_set_ne (by assumption)).trans (by assumption)) ?_ | with_reducible refine Ok.sli_tail ?_ | ((with_reducible refine OkS.aug ?_); refine ⟨_, rfl, ?_⟩) | ((with_reducible refine Ok.ix_t ?_); refine ⟨_, rfl, ?_⟩) | ((with_reducible refine Ok.ix_l ?_); refine ⟨_, rfl, ?_⟩) | ((with_reducible refine Ok.tgT ?_ ?_); exact rfl) | with_reducible refine Ok.sli_t ?_ | with_reducible refine Ok.sli_l ?_ | ((with_reducible refine Ok.mod_ii ?_ ?_); (first | decide | (simp; done) | (simp; omega))) | ((with_reducible refine Ok.add_tt ?_ ?_); (first | decide | (simp; done) | (simp; omega))) | ((with_reducible refine Ok.add_ll ?_ ?_); (first | decide | (simp; done) | (simp; omega))) | ((with_reducible refine Ok.add_ss ?_ ?_); (first | decide | (simp; done) | (simp; omega))) | ((with_reducible refine Ok.rng1 ?_ ?_); (first | decide | omega | (simp; omega))) | ((with_reducible refine Br.dt ?_ ?_); (first | assumption | exact rfl | omega | decide +kernel)) | ((with_reducible refine Br.df ?_ ?_); (first | assumption | omega | decide +kernel)) | ((with_reducible refine Br.tt ?_ ?_); (first | assumption | decide +kernel)) | ((with_reducible refine Br.ff ?_ ?_); (first | assumption | decide +kernel)) | ((with_reducible refine Ok.isi_tup (p := true) ?_ ?_); decide +kernel) | ((with_reducible refine Ok.isi_tup (p := false) ?_ ?_); decide +kernel) | ((with_reducible refine Ok.isi_int (p := true) ?_ ?_); decide +kernel) | ((with_reducible refine Ok.isi_int (p := false) ?_ ?_); decide +kernel) | ((with_reducible refine Ok.isi_str (p := true) ?_ ?_); decide +kernel) | ((with_reducible refine Ok.isi_str (p := false) ?_ ?_); decide +kernel) | ((with_reducible refine Ok.isi_lst (p := true) ?_ ?_); decide +kernel) | ((with_reducible refine Ok.isi_lst (p := false) ?_ ?_); decide +kernel) | ((with_reducible refine Ok.isi_bl (p := true) ?_ ?_); decide +kernel) | ((with_reducible refine Ok.isi_bl (p := false) ?_ ?_); decide +kernel) | ((with_reducible refine Ok.isi_non (p := true) ?_ ?_); decide +kernel) | ((with_reducible refine Ok.isi_non (p := false) ?_ ?_); decide +kernel) | ((with_reducible refine Ok.isi_ctu (p := true) ?_ ?_); decide +kernel) | ((with_reducible refine Ok.isi_ctu (p := false) ?_ ?_); decide +kernel) | ((with_reducible refine Ok.isi_emp (p := true) ?_ ?_); decide +kernel) | ((with_reducible refine Ok.isi_emp (p := false) ?_ ?_); decide +kernel)))
section
variable {S0 : Store} {o b a : Nat} {size : Int} {deep : Str} {ks : List Str} {s : St} {l : D} {i : Int}
/-- what the letters stand for -/
def Lets (l : D) (ls : List Int) : Prop := ∀ (i : Fin 4) (S : Store), ixD l (.int ((i.val : Nat) : Int)) S = .ok (.int (ls.getD i.val 0)) S
end
end DL.Lb
namespace DL.Lb
open PySem PySem.Spec PyProof.Rows L2 DL
local macro_rules | `(tactic| and_intros) => `(tactic| repeat (first | with_reducible refine StpA.go ?_ | with_reducible refine StpB.go ?_ | ((with_reducible refine Ok.var ?_); refine ⟨_, rfl, ?_⟩) | ((with_reducible refine Fr.go ?_); intro fr_ e_; simp only [List.set_cons_zero, List.set_cons_succ, setAll, wipeF] at e_; subst e_) | ((with_reducible refine Ok.fldM ?_ ?_ ?_); (assumption); (exact c_M); (first | refine ⟨_, g_stack, ?_⟩ | refine ⟨_, g_kept, ?_⟩ | refine ⟨_, g_store, ?_⟩ | refine ⟨_, g_way, ?_⟩ | refine ⟨_, g_keyed, ?_⟩ | refine ⟨_, g_arith, ?_⟩ | refine ⟨_, g_rules, ?_⟩)) | ((with_reducible refine Ok.setM ?_ ?_ ?_ ?_); (assumption); (exact c_M); (exact mf_len); (first | refine ⟨_, p_stack, ?_⟩ | refine ⟨_, p_kept, ?_⟩ | refine ⟨_, p_store, ?_⟩ | refine ⟨_, p_way, ?_⟩)) | with_reducible refine Ok.sl_d1 ?_ | with_reducible refine Ok.sl_d2 ?_ | with_reducible refine Ok.sl_t1 ?_ | with_reducible refine Ok.sl_dl ?_ | with_reducible refine Ok.sl_l1 ?_ | ((with_reducible refine Ok.ad_1m ?_ ?_); (simp; omega)) | ((with_reducible refine Ok.ad_2m ?_ ?_); (simp; omega)) | ((with_reducible refine Ok.ad_m1 ?_ ?_); (simp; omega)) | ((with_reducible refine Ok.ad_mm ?_ ?_); (simp; omega)) | ((with_reducible refine Ok.ixm0 ?_ ?_); (omega)) | ((with_reducible refine Ok.ixm1 ?_ ?_); (omega)) | ((with_reducible refine Ok.ixm9 ?_ ?_); (omega)) | with_reducible refine const_ ?_ | with_reducible refine plus_ ?_ | with_reducible refine minus_ ?_ | with_reducible refine Ok.mtd1 ?_ | with_reducible refine Ok.prp1 ?_ | refine ⟨_, _, rfl, (List.getElem?_set_ne (by assumption)).trans (by assumption), rfl, ?_⟩ | refine ⟨_, _, rfl, List.getElem?_set_self (by assumption), rfl, ?_⟩ | refine ⟨_, _, rfl, (List.getElem?_set_ne (by assumption)).trans (by assumption), ?_⟩ | with_reducible refine deepest_ ((List.getElem?_set_ne (by assumption)).trans (by assumption)) ?_ | with_reducible refine keeps_ ((List.getElem?_set_ne (by assumption)).trans (by assumption)) ?_ | with_reducible refine Ok.sli_tail ?_ | ((with_reducible refine OkS.aug ?_); refine ⟨_, rfl, ?_⟩) | ((with_reducible refine Ok.ix_t ?_); refine ⟨_, rfl, ?_⟩) | ((with_reducible refine Ok.ix_l ?_); refine ⟨_, rfl, ?_⟩) | ((with_reducible refine Ok.tgT ?_ ?_); exact rfl) | with_reducible refine Ok.sli_t ?_ | with_reducible refine Ok.sli_l ?_ | ((with_reducible refine Ok.mod_ii ?_ ?_); (first | decide | (simp; done) | (simp; omega))) | ((with_reducible refine Ok.add_tt ?_ ?_); (first | decide | (simp; done) | (simp; omega))) | ((with_reducible refine Ok.add_ll ?_ ?_); (first | decide | (simp; done) | (simp; omega))) | ((with_reducible refine Ok.add_ss ?_ ?_); (first | decide | (simp; done) | (simp; omega))) | ((with_reducible refine Ok.rng1 ?_ ?_); (first | decide | omega | (simp; omega))) | ((with_reducible refine Br.dt ?_ ?_); (first | assumption | exact rfl | omega | decide +kernel)) | ((with_reducible refine Br.df ?_ ?_); (first | assumption | omega | decide +kernel)) | ((with_reducible refine Br.tt ?_ ?_); (first | assumption | decide +kernel)) | ((with_reducible refine Br.ff ?_ ?_); (first | assumption | decide +kernel)) | ((with_reducible refine Ok.isi_tup (p := true) ?_ ?_); decide +kernel) | ((with_reducible refine Ok.isi_tup (p := false) ?_ ?_); decide +kernel) | ((with_reducible refine Ok.isi_int (p := true) ?_ ?_); decide +kernel) | ((with_reducible refine Ok.isi_int (p := false) ?_ ?_); decide +kernel) | ((with_reducible refine Ok.isi_str (p := true) ?_ ?_); decide +kernel) | ((with_reducible refine Ok.isi_str (p := false) ?_ ?_); decide +kernel) | ((with_reducible refine Ok.isi_lst (p := true) ?_ ?_); decide +kernel) | ((with_reducible refine Ok.isi_lst (p := false) ?_ ?_); decide +kernel) | ((with_reducible refine Ok.isi_bl (p := true) ?_ ?_); decide +kernel) | ((with_reducible refine Ok.isi_bl (p := false) ?_ ?_); decide +kernel) | ((with_reducible refine Ok.isi_non (p := true) ?_ ?_); decide +kernel) | ((with_reducible refine Ok.isi_non (p := false) ?_ ?_); decide +kernel) | ((with_reducible refine Ok.isi_ctu (p := true) ?_ ?_); decide +kernel) | ((with_reducible refine Ok.isi_ctu (p := false) ?_ ?_); decide +kernel) | ((with_reducible refine Ok.isi_emp (p := true) ?_ ?_); decide +kernel) | ((with_reducible refine Ok.isi_emp (p := false) ?_ ?_); decide +kernel)))
section
variable {S0 : Store} {o b a : Nat} {size : Int} {deep : Str} {ks : List Str} {s : St} {l : D} {i : Int}
/-! ### how great the numbers may be -/
def kB (k : Ky) (B : Nat) : Nat := if k = .times then 2 * B else B + 1
/-- how many digits there may be behind a row -/
def rB : List Ky → Nat → Nat
  | [], B => B
  | k :: r, B => rB r (kB k B)
/-! ### whole rows -/
def runN (deep : Str) (ks : List Str) (ls : List Int) : List Ky → St → St
  | [], s => s
  | k :: r, s => runN deep ks ls r (pressN deep ks ls k s)
def shownN (deep : Str) (ks : List Str) (ls : List Int) : List Ky → St → List Int
  | [], s => []
  | k :: r, s => (pressN deep ks ls k s).lv.getD 0 0 :: shownN deep ks ls r (pressN deep ks ls k s)
def stD (s : St) : D := .tup [.tup (s.lv.map .int), .int s.kp, .int s.mem, .str s.way]
end
end DL.Lb
namespace DL.Lb
open PySem PySem.Spec PyProof.Rows L2 DL
local macro_rules | `(tactic| and_intros) => `(tactic| repeat (first | with_reducible refine StpA.go ?_ | with_reducible refine StpB.go ?_ | ((with_reducible refine Ok.var ?_); refine ⟨_, rfl, ?_⟩) | ((with_reducible refine Fr.go ?_); intro fr_ e_; simp only [List.set_cons_zero, List.set_cons_succ, setAll, wipeF] at e_; subst e_) | ((with_reducible refine Ok.fldM ?_ ?_ ?_); (assumption); (exact c_M); (first | refine ⟨_, g_stack, ?_⟩ | refine ⟨_, g_kept, ?_⟩ | refine ⟨_, g_store, ?_⟩ | refine ⟨_, g_way, ?_⟩ | refine ⟨_, g_keyed, ?_⟩ | refine ⟨_, g_arith, ?_⟩ | refine ⟨_, g_rules, ?_⟩)) | ((with_reducible refine Ok.setM ?_ ?_ ?_ ?_); (assumption); (exact c_M); (exact mf_len); (first | refine ⟨_, p_stack, ?_⟩ | refine ⟨_, p_kept, ?_⟩ | refine ⟨_, p_store, ?_⟩ | refine ⟨_, p_way, ?_⟩)) | with_reducible refine Ok.sl_d1 ?_ | with_reducible refine Ok.sl_d2 ?_ | with_reducible refine Ok.sl_t1 ?_ | with_reducible refine Ok.sl_dl ?_ | with_reducible refine Ok.sl_l1 ?_ | ((with_reducible refine Ok.ad_1m ?_ ?_); (simp; omega)) | ((with_reducible refine Ok.ad_2m ?_ ?_); (simp; omega)) | ((with_reducible refine Ok.ad_m1 ?_ ?_); (simp; omega)) | ((with_reducible refine Ok.ad_mm ?_ ?_); (simp; omega)) | ((with_reducible refine Ok.ixm0 ?_ ?_); (omega)) | ((with_reducible refine Ok.ixm1 ?_ ?_); (omega)) | ((with_reducible refine Ok.ixm9 ?_ ?_); (omega)) | with_reducible refine const_ ?_ | with_reducible refine plus_ ?_ | with_reducible refine minus_ ?_ | with_reducible refine Ok.mtd1 ?_ | with_reducible refine Ok.prp1 ?_ | refine ⟨_, _, rfl, (List.getElem?_set_ne (by assumption)).trans (by assumption), rfl, ?_⟩ | refine ⟨_, _, rfl, List.getElem?_set_self (by assumption), rfl, ?_⟩ | refine ⟨_, _, rfl, (List.getElem?_set_ne (by assumption)).trans (by assumption), ?_⟩ | with_reducible refine deepest_ ((List.getElem?_set_ne (by assumption)).trans (by assumption)) ?_ | with_reducible refine keeps_ ((List.getElem?_set_ne (by assumption)).trans (by assumption)) ?_ | ((with_reducible refine Ok.setM ?_ ?_ ?_ ?_); (assumption); (exact c_M); (focus (simp; done)); (first | refine ⟨_, i_rules, ?_⟩ | refine ⟨_, i_stack, ?_⟩ | refine ⟨_, i_kept, ?_⟩ | refine ⟨_, i_store, ?_⟩ | refine ⟨_, i_way, ?_⟩ | refine ⟨_, i_keyed, ?_⟩ | refine ⟨_, i_arithmetic, ?_⟩)) | ((with_reducible refine Ok.tgT ?_ ?_); (exact rfl)) | with_reducible refine Ok.sli_tail ?_ | ((with_reducible refine OkS.aug ?_); refine ⟨_, rfl, ?_⟩) | ((with_reducible refine Ok.ix_t ?_); refine ⟨_, rfl, ?_⟩) | ((with_reducible refine Ok.ix_l ?_); refine ⟨_, rfl, ?_⟩) | ((with_reducible refine Ok.tgT ?_ ?_); exact rfl) | with_reducible refine Ok.sli_t ?_ | with_reducible refine Ok.sli_l ?_ | ((with_reducible refine Ok.mod_ii ?_ ?_); (first | decide | (simp; done) | (simp; omega))) | ((with_reducible refine Ok.add_tt ?_ ?_); (first | decide | (simp; done) | (simp; omega))) | ((with_reducible refine Ok.add_ll ?_ ?_); (first | decide | (simp; done) | (simp; omega))) | ((with_reducible refine Ok.add_ss ?_ ?_); (first | decide | (simp; done) | (simp; omega))) | ((with_reducible refine Ok.rng1 ?_ ?_); (first | decide | omega | (simp; omega))) | ((with_reducible refine Br.dt ?_ ?_); (first | assumption | exact rfl | omega | decide +kernel)) | ((with_reducible refine Br.df ?_ ?_); (first | assumption | omega | decide +kernel)) | ((with_reducible refine Br.tt ?_ ?_); (first | assumption | decide +kernel)) | ((with_reducible refine Br.ff ?_ ?_); (first | assumption | decide +kernel)) | ((with_reducible refine Ok.isi_tup (p := true) ?_ ?_); decide +kernel) | ((with_reducible refine Ok.isi_tup (p := false) ?_ ?_); decide +kernel) | ((with_reducible refine Ok.isi_int (p := true) ?_ ?_); decide +kernel) | ((with_reducible refine Ok.isi_int (p := false) ?_ ?_); decide +kernel) | ((with_reducible refine Ok.isi_str (p := true) ?_ ?_); decide +kernel) | ((with_reducible refine Ok.isi_str (p := false) ?_ ?_); decide +kernel) | ((with_reducible refine Ok.isi_lst (p := true) ?_ ?_); decide +kernel) | ((with_reducible refine Ok.isi_lst (p := false) ?_ ?_); decide +kernel) | ((with_reducible refine Ok.isi_bl (p := true) ?_ ?_); decide +kernel) | ((with_reducible refine Ok.isi_bl (p := false) ?_ ?_); decide +kernel) | ((with_reducible refine Ok.isi_non (p := true) ?_ ?_); decide +kernel) | ((with_reducible refine Ok.isi_non (p := false) ?_ ?_); decide +kernel) | ((with_reducible refine Ok.isi_ctu (p := true) ?_ ?_); decide +kernel) | ((with_reducible refine Ok.isi_ctu (p := false) ?_ ?_); decide +kernel) | ((with_reducible refine Ok.isi_emp (p := true) ?_ ?_); decide +kernel) | ((with_reducible refine Ok.isi_emp (p := false) ?_ ?_); decide +kernel)))
section
variable {S0 S : Store} {o b a f : Nat} {size : Int} {deep : Str} {ks : List Str} {s : St} {l : D} {i : Int}
end
end DL.Lb
namespace DL.Lb
open PySem PySem.Spec PyProof.Rows L2 DL
local macro_rules | `(tactic| and_intros) => `(tactic| repeat (first | with_reducible refine StpA.go ?_ | with_reducible refine StpB.go ?_ | ((with_reducible refine Ok.var ?_); refine ⟨_, rfl, ?_⟩) | ((with_reducible refine Fr.go ?_); intro fr_ e_; simp only [List.set_cons_zero, List.set_cons_succ, setAll, wipeF] at e_; subst e_) | ((with_reducible refine Ok.fldM ?_ ?_ ?_); (assumption); (exact c_M); (first | refine ⟨_, g_stack, ?_⟩ | refine ⟨_, g_kept, ?_⟩ | refine ⟨_, g_store, ?_⟩ | refine ⟨_, g_way, ?_⟩ | refine ⟨_, g_keyed, ?_⟩ | refine ⟨_, g_arith, ?_⟩ | refine ⟨_, g_rules, ?_⟩)) | ((with_reducible refine Ok.setM ?_ ?_ ?_ ?_); (assumption); (exact c_M); (exact mf_len); (first | refine ⟨_, p_stack, ?_⟩ | refine ⟨_, p_kept, ?_⟩ | refine ⟨_, p_store, ?_⟩ | refine ⟨_, p_way, ?_⟩)) | with_reducible refine Ok.sl_d1 ?_ | with_reducible refine Ok.sl_d2 ?_ | with_reducible refine Ok.sl_t1 ?_ | with_reducible refine Ok.sl_dl ?_ | with_reducible refine Ok.sl_l1 ?_ | ((with_reducible refine Ok.ad_1m ?_ ?_); (simp; omega)) | ((with_reducible refine Ok.ad_2m ?_ ?_); (simp; omega)) | ((with_reducible refine Ok.ad_m1 ?_ ?_); (simp; omega)) | ((with_reducible refine Ok.ad_mm ?_ ?_); (simp; omega)) | ((with_reducible refine Ok.ixm0 ?_ ?_); (omega)) | ((with_reducible refine Ok.ixm1 ?_ ?_); (omega)) | ((with_reducible refine Ok.ixm9 ?_ ?_); (omega)) | with_reducible refine const_ ?_ | with_reducible refine plus_ ?_ | with_reducible refine minus_ ?_ | with_reducible refine Ok.mtd1 ?_ | with_reducible refine Ok.prp1 ?_ | refine ⟨_, _, rfl, (List.getElem?_set_ne (by assumption)).trans (by assumption), rfl, ?_⟩ | refine ⟨_, _, rfl, List.getElem?_set_self (by assumption), rfl, ?_⟩ | refine ⟨_, _, rfl, (List.getElem?_set_ne (by assumption)).trans (by assumption), ?_⟩ | with_reducible refine deepest_ ((List.getElem?_set_ne (by assumption)).trans (by assumption)) ?_ | with_reducible refine keeps_ ((List.getElem?_set_ne (by assumption)).trans (by assumption)) ?_ | with_reducible refine Ok.sli_tail ?_ | ((with_reducible refine OkS.aug ?_); refine ⟨_, rfl, ?_⟩) | ((with_reducible refine Ok.ix_t ?_); refine ⟨_, rfl, ?_⟩) | ((with_reducible refine Ok.ix_l ?_); refine ⟨_, rfl, ?_⟩) | ((with_reducible refine Ok.tgT ?_ ?_); exact rfl) | with_reducible refine Ok.sli_t ?_ | with_reducible refine Ok.sli_l ?_ | ((with_reducible refine Ok.mod_ii ?_ ?_); (first | decide | (simp; done) | (simp; omega))) | ((with_reducible refine Ok.add_tt ?_ ?_); (first | decide | (simp; done) | (simp; omega))) | ((with_reducible refine Ok.add_ll ?_ ?_); (first | decide | (simp; done) | (simp; omega))) | ((with_reducible refine Ok.add_ss ?_ ?_); (first | decide | (simp; done) | (simp; omega))) | ((with_reducible refine Ok.rng1 ?_ ?_); (first | decide | omega | (simp; omega))) | ((with_reducible refine Br.dt ?_ ?_); (first | assumption | exact rfl | omega | decide +kernel)) | ((with_reducible refine Br.df ?_ ?_); (first | assumption | omega | decide +kernel)) | ((with_reducible refine Br.tt ?_ ?_); (first | assumption | decide +kernel)) | ((with_reducible refine Br.ff ?_ ?_); (first | assumption | decide +kernel)) | ((with_reducible refine Ok.isi_tup (p := true) ?_ ?_); decide +kernel) | ((with_reducible refine Ok.isi_tup (p := false) ?_ ?_); decide +kernel) | ((with_reducible refine Ok.isi_int (p := true) ?_ ?_); decide +kernel) | ((with_reducible refine Ok.isi_int (p := false) ?_ ?_); decide +kernel) | ((with_reducible refine Ok.isi_str (p := true) ?_ ?_); decide +kernel) | ((with_reducible refine Ok.isi_str (p := false) ?_ ?_); decide +kernel) | ((with_reducible refine Ok.isi_lst (p := true) ?_ ?_); decide +kernel) | ((with_reducible refine Ok.isi_lst (p := false) ?_ ?_); decide +kernel) | ((with_reducible refine Ok.isi_bl (p := true) ?_ ?_); decide +kernel) | ((with_reducible refine Ok.isi_bl (p := false) ?_ ?_); decide +kernel) | ((with_reducible refine Ok.isi_non (p := true) ?_ ?_); decide +kernel) | ((with_reducible refine Ok.isi_non (p := false) ?_ ?_); decide +kernel) | ((with_reducible refine Ok.isi_ctu (p := true) ?_ ?_); decide +kernel) | ((with_reducible refine Ok.isi_ctu (p := false) ?_ ?_); decide +kernel) | ((with_reducible refine Ok.isi_emp (p := true) ?_ ?_); decide +kernel) | ((with_reducible refine Ok.isi_emp (p := false) ?_ ?_); decide +kernel)))
section
variable {S0 S : Store} {o b a f : Nat} {size : Int} {deep : Str} {ks : List Str} {s : St} {l : D} {i : Int}
theorem tyR_lst {S : Store} {n : Nat} {l : List D} (h : S[n]? = some (some (.lst l))) : tyR S "list" (.ob n) = true := by
  unfold tyR
  simp only [h]
  rfl
end
end DL.Lb
namespace DL.Lb
open PySem PySem.Spec PyProof.Rows L2 DL
/-! ### the law's own walk of the keys -/
def wf (r : D) (s : St) (l : D) : List (Key × D) := [(.inr "rules", r), (.inr "levels", .lst (s.lv.map .int)), (.inr "last", .int s.kp), (.inr "memory", .int s.mem), (.inr "mode", .str s.way), (.inr "letters", l)]
section
variable {r l d : D} {s : St} {x : List Int} {i : Int} {w : Str}
end
local macro_rules | `(tactic| and_intros) => `(tactic| repeat (first | with_reducible refine StpA.go ?_ | with_reducible refine StpB.go ?_ | ((with_reducible refine Ok.var ?_); refine ⟨_, rfl, ?_⟩) | ((with_reducible refine Fr.go ?_); intro fr_ e_; simp only [List.set_cons_zero, List.set_cons_succ, setAll, wipeF] at e_; subst e_) | ((with_reducible refine Ok.dgetM ?_ ?_); (assumption); (first | refine ⟨_, _, rfl, w_levels.2, ?_⟩ | refine ⟨_, _, rfl, w_rules.2, ?_⟩ | refine ⟨_, _, rfl, w_mode.2, ?_⟩ | refine ⟨_, _, rfl, w_last.2, ?_⟩ | refine ⟨_, _, rfl, w_memory.2, ?_⟩ | refine ⟨_, _, rfl, w_letters.2, ?_⟩)) | ((with_reducible refine Ok.dsetM ?_ ?_ ?_); (assumption); (exact wf_len); (first | refine ⟨_, _, rfl, q_levels, ?_⟩ | refine ⟨_, _, rfl, q_mode, ?_⟩ | refine ⟨_, _, rfl, q_last, ?_⟩ | refine ⟨_, _, rfl, q_memory, ?_⟩)) | with_reducible refine Ok.sll_d1 ?_ | with_reducible refine Ok.sll_d2 ?_ | with_reducible refine Ok.sll_t1 ?_ | with_reducible refine Ok.sll_dl ?_ | with_reducible refine Ok.sll_l1 ?_ | ((with_reducible refine Ok.al_1m ?_ ?_); (simp; omega)) | ((with_reducible refine Ok.al_2m ?_ ?_); (simp; omega)) | ((with_reducible refine Ok.al_m1 ?_ ?_); (simp; omega)) | ((with_reducible refine Ok.al_mm ?_ ?_); (simp; omega)) | ((with_reducible refine Ok.ixl0 ?_ ?_); (omega)) | ((with_reducible refine Ok.ixl1 ?_ ?_); (omega)) | ((with_reducible refine Ok.ixl9 ?_ ?_); (omega)) | with_reducible refine Ok.sli_tail ?_ | ((with_reducible refine OkS.aug ?_); refine ⟨_, rfl, ?_⟩) | ((with_reducible refine Ok.ix_t ?_); refine ⟨_, rfl, ?_⟩) | ((with_reducible refine Ok.ix_l ?_); refine ⟨_, rfl, ?_⟩) | ((with_reducible refine Ok.tgT ?_ ?_); exact rfl) | with_reducible refine Ok.sli_t ?_ | with_reducible refine Ok.sli_l ?_ | ((with_reducible refine Ok.mod_ii ?_ ?_); (first | decide | (simp; done) | (simp; omega))) | ((with_reducible refine Ok.add_tt ?_ ?_); (first | decide | (simp; done) | (simp; omega))) | ((with_reducible refine Ok.add_ll ?_ ?_); (first | decide | (simp; done) | (simp; omega))) | ((with_reducible refine Ok.add_ss ?_ ?_); (first | decide | (simp; done) | (simp; omega))) | ((with_reducible refine Ok.rng1 ?_ ?_); (first | decide | omega | (simp; omega))) | ((with_reducible refine Br.dt ?_ ?_); (first | assumption | exact rfl | omega | decide +kernel)) | ((with_reducible refine Br.df ?_ ?_); (first | assumption | omega | decide +kernel)) | ((with_reducible refine Br.tt ?_ ?_); (first | assumption | decide +kernel)) | ((with_reducible refine Br.ff ?_ ?_); (first | assumption | decide +kernel)) | ((with_reducible refine Ok.isi_tup (p := true) ?_ ?_); decide +kernel) | ((with_reducible refine Ok.isi_tup (p := false) ?_ ?_); decide +kernel) | ((with_reducible refine Ok.isi_int (p := true) ?_ ?_); decide +kernel) | ((with_reducible refine Ok.isi_int (p := false) ?_ ?_); decide +kernel) | ((with_reducible refine Ok.isi_str (p := true) ?_ ?_); decide +kernel) | ((with_reducible refine Ok.isi_str (p := false) ?_ ?_); decide +kernel) | ((with_reducible refine Ok.isi_lst (p := true) ?_ ?_); decide +kernel) | ((with_reducible refine Ok.isi_lst (p := false) ?_ ?_); decide +kernel) | ((with_reducible refine Ok.isi_bl (p := true) ?_ ?_); decide +kernel) | ((with_reducible refine Ok.isi_bl (p := false) ?_ ?_); decide +kernel) | ((with_reducible refine Ok.isi_non (p := true) ?_ ?_); decide +kernel) | ((with_reducible refine Ok.isi_non (p := false) ?_ ?_); decide +kernel) | ((with_reducible refine Ok.isi_ctu (p := true) ?_ ?_); decide +kernel) | ((with_reducible refine Ok.isi_ctu (p := false) ?_ ?_); decide +kernel) | ((with_reducible refine Ok.isi_emp (p := true) ?_ ?_); decide +kernel) | ((with_reducible refine Ok.isi_emp (p := false) ?_ ?_); decide +kernel)))
section
variable {S0 S : Store} {o : Nat} {size : Int} {deep : Str} {ks : List Str} {s : St} {l r : D} {i : Int}
end
end DL.Lb
namespace DL.Lb
open PySem PySem.Spec PyProof.Rows L2 DL
local macro_rules | `(tactic| and_intros) => `(tactic| repeat (first | with_reducible refine StpA.go ?_ | with_reducible refine StpB.go ?_ | ((with_reducible refine Ok.var ?_); refine ⟨_, rfl, ?_⟩) | ((with_reducible refine Fr.go ?_); intro fr_ e_; simp only [List.set_cons_zero, List.set_cons_succ, setAll, wipeF] at e_; subst e_) | ((with_reducible refine Ok.dgetM ?_ ?_); (assumption); (first | refine ⟨_, _, rfl, w_levels.2, ?_⟩ | refine ⟨_, _, rfl, w_rules.2, ?_⟩ | refine ⟨_, _, rfl, w_mode.2, ?_⟩ | refine ⟨_, _, rfl, w_last.2, ?_⟩ | refine ⟨_, _, rfl, w_memory.2, ?_⟩ | refine ⟨_, _, rfl, w_letters.2, ?_⟩)) | ((with_reducible refine Ok.dsetM ?_ ?_ ?_); (assumption); (exact wf_len); (first | refine ⟨_, _, rfl, q_levels, ?_⟩ | refine ⟨_, _, rfl, q_mode, ?_⟩ | refine ⟨_, _, rfl, q_last, ?_⟩ | refine ⟨_, _, rfl, q_memory, ?_⟩)) | with_reducible refine Ok.sll_d1 ?_ | with_reducible refine Ok.sll_d2 ?_ | with_reducible refine Ok.sll_t1 ?_ | with_reducible refine Ok.sll_dl ?_ | with_reducible refine Ok.sll_l1 ?_ | ((with_reducible refine Ok.al_1m ?_ ?_); (simp; omega)) | ((with_reducible refine Ok.al_2m ?_ ?_); (simp; omega)) | ((with_reducible refine Ok.al_m1 ?_ ?_); (simp; omega)) | ((with_reducible refine Ok.al_mm ?_ ?_); (simp; omega)) | ((with_reducible refine Ok.ixl0 ?_ ?_); (omega)) | ((with_reducible refine Ok.ixl1 ?_ ?_); (omega)) | ((with_reducible refine Ok.ixl9 ?_ ?_); (omega)) | with_reducible refine Ok.sli_tail ?_ | ((with_reducible refine OkS.aug ?_); refine ⟨_, rfl, ?_⟩) | ((with_reducible refine Ok.ix_t ?_); refine ⟨_, rfl, ?_⟩) | ((with_reducible refine Ok.ix_l ?_); refine ⟨_, rfl, ?_⟩) | ((with_reducible refine Ok.tgT ?_ ?_); exact rfl) | with_reducible refine Ok.sli_t ?_ | with_reducible refine Ok.sli_l ?_ | ((with_reducible refine Ok.mod_ii ?_ ?_); (first | decide | (simp; done) | (simp; omega))) | ((with_reducible refine Ok.add_tt ?_ ?_); (first | decide | (simp; done) | (simp; omega))) | ((with_reducible refine Ok.add_ll ?_ ?_); (first | decide | (simp; done) | (simp; omega))) | ((with_reducible refine Ok.add_ss ?_ ?_); (first | decide | (simp; done) | (simp; omega))) | ((with_reducible refine Ok.rng1 ?_ ?_); (first | decide | omega | (simp; omega))) | ((with_reducible refine Br.dt ?_ ?_); (first | assumption | exact rfl | omega | decide +kernel)) | ((with_reducible refine Br.df ?_ ?_); (first | assumption | omega | decide +kernel)) | ((with_reducible refine Br.tt ?_ ?_); (first | assumption | decide +kernel)) | ((with_reducible refine Br.ff ?_ ?_); (first | assumption | decide +kernel)) | ((with_reducible refine Ok.isi_tup (p := true) ?_ ?_); decide +kernel) | ((with_reducible refine Ok.isi_tup (p := false) ?_ ?_); decide +kernel) | ((with_reducible refine Ok.isi_int (p := true) ?_ ?_); decide +kernel) | ((with_reducible refine Ok.isi_int (p := false) ?_ ?_); decide +kernel) | ((with_reducible refine Ok.isi_str (p := true) ?_ ?_); decide +kernel) | ((with_reducible refine Ok.isi_str (p := false) ?_ ?_); decide +kernel) | ((with_reducible refine Ok.isi_lst (p := true) ?_ ?_); decide +kernel) | ((with_reducible refine Ok.isi_lst (p := false) ?_ ?_); decide +kernel) | ((with_reducible refine Ok.isi_bl (p := true) ?_ ?_); decide +kernel) | ((with_reducible refine Ok.isi_bl (p := false) ?_ ?_); decide +kernel) | ((with_reducible refine Ok.isi_non (p := true) ?_ ?_); decide +kernel) | ((with_reducible refine Ok.isi_non (p := false) ?_ ?_); decide +kernel) | ((with_reducible refine Ok.isi_ctu (p := true) ?_ ?_); decide +kernel) | ((with_reducible refine Ok.isi_ctu (p := false) ?_ ?_); decide +kernel) | ((with_reducible refine Ok.isi_emp (p := true) ?_ ?_); decide +kernel) | ((with_reducible refine Ok.isi_emp (p := false) ?_ ?_); decide +kernel)))
section
variable {S0 S Sg : Store} {o : Nat} {size : Int} {deep : Str} {ks : List Str} {s : St} {l r : D} {i : Int}
def rulesD (size : Int) (deep : Str) (ks : List Str) : D := .tup [.int size, .str deep, .tup (ks.map .str)]
end
end DL.Lb
namespace DL.Lb
open PySem PySem.Spec PyProof.Rows L2 DL
local macro_rules | `(tactic| and_intros) => `(tactic| repeat (first | with_reducible refine StpA.go ?_ | with_reducible refine StpB.go ?_ | ((with_reducible refine Ok.var ?_); refine ⟨_, rfl, ?_⟩) | ((with_reducible refine Fr.go ?_); intro fr_ e_; simp only [List.set_cons_zero, List.set_cons_succ, setAll, wipeF] at e_; subst e_) | ((with_reducible refine Ok.dgetM ?_ ?_); (assumption); (first | refine ⟨_, _, rfl, w_levels.2, ?_⟩ | refine ⟨_, _, rfl, w_rules.2, ?_⟩ | refine ⟨_, _, rfl, w_mode.2, ?_⟩ | refine ⟨_, _, rfl, w_last.2, ?_⟩ | refine ⟨_, _, rfl, w_memory.2, ?_⟩ | refine ⟨_, _, rfl, w_letters.2, ?_⟩)) | ((with_reducible refine Ok.dsetM ?_ ?_ ?_); (assumption); (exact wf_len); (first | refine ⟨_, _, rfl, q_levels, ?_⟩ | refine ⟨_, _, rfl, q_mode, ?_⟩ | refine ⟨_, _, rfl, q_last, ?_⟩ | refine ⟨_, _, rfl, q_memory, ?_⟩)) | with_reducible refine Ok.sll_d1 ?_ | with_reducible refine Ok.sll_d2 ?_ | with_reducible refine Ok.sll_t1 ?_ | with_reducible refine Ok.sll_dl ?_ | with_reducible refine Ok.sll_l1 ?_ | ((with_reducible refine Ok.al_1m ?_ ?_); (simp; omega)) | ((with_reducible refine Ok.al_2m ?_ ?_); (simp; omega)) | ((with_reducible refine Ok.al_m1 ?_ ?_); (simp; omega)) | ((with_reducible refine Ok.al_mm ?_ ?_); (simp; omega)) | ((with_reducible refine Ok.ixl0 ?_ ?_); (omega)) | ((with_reducible refine Ok.ixl1 ?_ ?_); (omega)) | ((with_reducible refine Ok.ixl9 ?_ ?_); (omega)) | with_reducible refine Ok.sli_tail ?_ | ((with_reducible refine OkS.aug ?_); refine ⟨_, rfl, ?_⟩) | ((with_reducible refine Ok.ix_t ?_); refine ⟨_, rfl, ?_⟩) | ((with_reducible refine Ok.ix_l ?_); refine ⟨_, rfl, ?_⟩) | ((with_reducible refine Ok.tgT ?_ ?_); exact rfl) | with_reducible refine Ok.sli_t ?_ | with_reducible refine Ok.sli_l ?_ | ((with_reducible refine Ok.mod_ii ?_ ?_); (first | decide | (simp; done) | (simp; omega))) | ((with_reducible refine Ok.add_tt ?_ ?_); (first | decide | (simp; done) | (simp; omega))) | ((with_reducible refine Ok.add_ll ?_ ?_); (first | decide | (simp; done) | (simp; omega))) | ((with_reducible refine Ok.add_ss ?_ ?_); (first | decide | (simp; done) | (simp; omega))) | ((with_reducible refine Ok.rng1 ?_ ?_); (first | decide | omega | (simp; omega))) | ((with_reducible refine Br.dt ?_ ?_); (first | assumption | exact rfl | omega | decide +kernel)) | ((with_reducible refine Br.df ?_ ?_); (first | assumption | omega | decide +kernel)) | ((with_reducible refine Br.tt ?_ ?_); (first | assumption | decide +kernel)) | ((with_reducible refine Br.ff ?_ ?_); (first | assumption | decide +kernel)) | ((with_reducible refine Ok.isi_tup (p := true) ?_ ?_); decide +kernel) | ((with_reducible refine Ok.isi_tup (p := false) ?_ ?_); decide +kernel) | ((with_reducible refine Ok.isi_int (p := true) ?_ ?_); decide +kernel) | ((with_reducible refine Ok.isi_int (p := false) ?_ ?_); decide +kernel) | ((with_reducible refine Ok.isi_str (p := true) ?_ ?_); decide +kernel) | ((with_reducible refine Ok.isi_str (p := false) ?_ ?_); decide +kernel) | ((with_reducible refine Ok.isi_lst (p := true) ?_ ?_); decide +kernel) | ((with_reducible refine Ok.isi_lst (p := false) ?_ ?_); decide +kernel) | ((with_reducible refine Ok.isi_bl (p := true) ?_ ?_); decide +kernel) | ((with_reducible refine Ok.isi_bl (p := false) ?_ ?_); decide +kernel) | ((with_reducible refine Ok.isi_non (p := true) ?_ ?_); decide +kernel) | ((with_reducible refine Ok.isi_non (p := false) ?_ ?_); decide +kernel) | ((with_reducible refine Ok.isi_ctu (p := true) ?_ ?_); decide +kernel) | ((with_reducible refine Ok.isi_ctu (p := false) ?_ ?_); decide +kernel) | ((with_reducible refine Ok.isi_emp (p := true) ?_ ?_); decide +kernel) | ((with_reducible refine Ok.isi_emp (p := false) ?_ ?_); decide +kernel)))
section
variable {S0 S Sg : Store} {o : Nat} {size : Int} {deep : Str} {ks : List Str} {s : St} {l r : D} {i : Int}
end
end DL.Lb
namespace DL.Lb
open PySem PySem.Spec PyProof.Rows L2 DL
local macro_rules | `(tactic| and_intros) => `(tactic| repeat (first | with_reducible refine StpA.go ?_ | with_reducible refine StpB.go ?_ | ((with_reducible refine Ok.var ?_); refine ⟨_, rfl, ?_⟩) | ((with_reducible refine Fr.go ?_); intro fr_ e_; simp only [List.set_cons_zero, List.set_cons_succ, setAll, wipeF] at e_; subst e_) | with_reducible refine Ok.sli_tail ?_ | ((with_reducible refine OkS.aug ?_); refine ⟨_, rfl, ?_⟩) | ((with_reducible refine Ok.ix_t ?_); refine ⟨_, rfl, ?_⟩) | ((with_reducible refine Ok.ix_l ?_); refine ⟨_, rfl, ?_⟩) | ((with_reducible refine Ok.tgT ?_ ?_); exact rfl) | with_reducible refine Ok.sli_t ?_ | with_reducible refine Ok.sli_l ?_ | ((with_reducible refine Ok.mod_ii ?_ ?_); (first | decide | (simp; done) | (simp; omega))) | ((with_reducible refine Ok.add_tt ?_ ?_); (first | decide | (simp; done) | (simp; omega))) | ((with_reducible refine Ok.add_ll ?_ ?_); (first | decide | (simp; done) | (simp; omega))) | ((with_reducible refine Ok.add_ss ?_ ?_); (first | decide | (simp; done) | (simp; omega))) | ((with_reducible refine Ok.rng1 ?_ ?_); (first | decide | omega | (simp; omega))) | ((with_reducible refine Br.dt ?_ ?_); (first | assumption | exact rfl | omega | decide +kernel)) | ((with_reducible refine Br.df ?_ ?_); (first | assumption | omega | decide +kernel)) | ((with_reducible refine Br.tt ?_ ?_); (first | assumption | decide +kernel)) | ((with_reducible refine Br.ff ?_ ?_); (first | assumption | decide +kernel)) | ((with_reducible refine Ok.isi_tup (p := true) ?_ ?_); decide +kernel) | ((with_reducible refine Ok.isi_tup (p := false) ?_ ?_); decide +kernel) | ((with_reducible refine Ok.isi_int (p := true) ?_ ?_); decide +kernel) | ((with_reducible refine Ok.isi_int (p := false) ?_ ?_); decide +kernel) | ((with_reducible refine Ok.isi_str (p := true) ?_ ?_); decide +kernel) | ((with_reducible refine Ok.isi_str (p := false) ?_ ?_); decide +kernel) | ((with_reducible refine Ok.isi_lst (p := true) ?_ ?_); decide +kernel) | ((with_reducible refine Ok.isi_lst (p := false) ?_ ?_); decide +kernel) | ((with_reducible refine Ok.isi_bl (p := true) ?_ ?_); decide +kernel) | ((with_reducible refine Ok.isi_bl (p := false) ?_ ?_); decide +kernel) | ((with_reducible refine Ok.isi_non (p := true) ?_ ?_); decide +kernel) | ((with_reducible refine Ok.isi_non (p := false) ?_ ?_); decide +kernel) | ((with_reducible refine Ok.isi_ctu (p := true) ?_ ?_); decide +kernel) | ((with_reducible refine Ok.isi_ctu (p := false) ?_ ?_); decide +kernel) | ((with_reducible refine Ok.isi_emp (p := true) ?_ ?_); decide +kernel) | ((with_reducible refine Ok.isi_emp (p := false) ?_ ?_); decide +kernel)))
section
variable {S : Store} {QD : D → Store → Prop} {n m q : Nat}
def MENU : List (List Str) := [[], ["*", "+", "-"], ["*", "+", "-", "neg"], ["neg"], ["+"], ["*", "-"]]
def DEEPS : List Str := ["copy", "nought"]
def WAYS : List Str := ["free", "held", "open"]
end
end DL.Lb
namespace DL.Lb
open PySem PySem.Spec PyProof.Rows L2 DL
section
variable {S : Store} {QD : D → Store → Prop} {QL : List D → Store → Prop} {n m q : Nat} {l : List D} {x : D} {g : D → Frame → M Frame} {t : Frame → M Bool} {elt : Frame → M D} {fr : Frame} {a b : Str}
end
local macro_rules | `(tactic| and_intros) => `(tactic| repeat (first | with_reducible refine StpA.go ?_ | with_reducible refine StpB.go ?_ | ((with_reducible refine Ok.var ?_); refine ⟨_, rfl, ?_⟩) | ((with_reducible refine Fr.go ?_); intro fr_ e_; simp only [List.set_cons_zero, List.set_cons_succ, setAll, wipeF] at e_; subst e_) | with_reducible refine Ok.sli_nil ?_ | ((with_reducible refine Ok.in_sk ?_ ?_ ?_); (decide +kernel); (decide +kernel)) | with_reducible refine Ok.lt_ss ?_ | with_reducible refine Ok.zip_tt ?_ | ((with_reducible refine Ok.tgT ?_ ?_); (exact rfl)) | ((with_reducible refine Ok.in_td ?_ ?_ ?_ ?_); (exact rfl); (decide +kernel); (decide +kernel)) | with_reducible refine Ok.sli_tail ?_ | ((with_reducible refine OkS.aug ?_); refine ⟨_, rfl, ?_⟩) | ((with_reducible refine Ok.ix_t ?_); refine ⟨_, rfl, ?_⟩) | ((with_reducible refine Ok.ix_l ?_); refine ⟨_, rfl, ?_⟩) | ((with_reducible refine Ok.tgT ?_ ?_); exact rfl) | with_reducible refine Ok.sli_t ?_ | with_reducible refine Ok.sli_l ?_ | ((with_reducible refine Ok.mod_ii ?_ ?_); (first | decide | (simp; done) | (simp; omega))) | ((with_reducible refine Ok.add_tt ?_ ?_); (first | decide | (simp; done) | (simp; omega))) | ((with_reducible refine Ok.add_ll ?_ ?_); (first | decide | (simp; done) | (simp; omega))) | ((with_reducible refine Ok.add_ss ?_ ?_); (first | decide | (simp; done) | (simp; omega))) | ((with_reducible refine Ok.rng1 ?_ ?_); (first | decide | omega | (simp; omega))) | ((with_reducible refine Br.dt ?_ ?_); (first | assumption | exact rfl | omega | decide +kernel)) | ((with_reducible refine Br.df ?_ ?_); (first | assumption | omega | decide +kernel)) | ((with_reducible refine Br.tt ?_ ?_); (first | assumption | decide +kernel)) | ((with_reducible refine Br.ff ?_ ?_); (first | assumption | decide +kernel)) | ((with_reducible refine Ok.isi_tup (p := true) ?_ ?_); decide +kernel) | ((with_reducible refine Ok.isi_tup (p := false) ?_ ?_); decide +kernel) | ((with_reducible refine Ok.isi_int (p := true) ?_ ?_); decide +kernel) | ((with_reducible refine Ok.isi_int (p := false) ?_ ?_); decide +kernel) | ((with_reducible refine Ok.isi_str (p := true) ?_ ?_); decide +kernel) | ((with_reducible refine Ok.isi_str (p := false) ?_ ?_); decide +kernel) | ((with_reducible refine Ok.isi_lst (p := true) ?_ ?_); decide +kernel) | ((with_reducible refine Ok.isi_lst (p := false) ?_ ?_); decide +kernel) | ((with_reducible refine Ok.isi_bl (p := true) ?_ ?_); decide +kernel) | ((with_reducible refine Ok.isi_bl (p := false) ?_ ?_); decide +kernel) | ((with_reducible refine Ok.isi_non (p := true) ?_ ?_); decide +kernel) | ((with_reducible refine Ok.isi_non (p := false) ?_ ?_); decide +kernel) | ((with_reducible refine Ok.isi_ctu (p := true) ?_ ?_); decide +kernel) | ((with_reducible refine Ok.isi_ctu (p := false) ?_ ?_); decide +kernel) | ((with_reducible refine Ok.isi_emp (p := true) ?_ ?_); decide +kernel) | ((with_reducible refine Ok.isi_emp (p := false) ?_ ?_); decide +kernel)))
section
variable {S : Store} {QD : D → Store → Prop} {n m q : Nat}
end
end DL.Lb
namespace DL.Lb
open PySem PySem.Spec PyProof.Rows L2 DL
/-! ### states as data -/
theorem row_rz (ks : List Ky) (h : ks.length ≤ 40) : Rz 1 20000 (rowD ks) := by
  refine (Rz.tup (dep := 0) (len := 52) ?_).mono (Nat.le_refl _) (by simp; omega)
  intro d hd
  simp only [List.map_map, List.mem_map, Function.comp_apply] at hd
  obtain ⟨k, _, rfl⟩ := hd
  exact Rz.str 5 k.len k.ok
/-! ### what is shown, key by key -/
end DL.Lb
namespace DL
open PySem PySem.Spec PyProof.Rows L2
/-! ### data that is shown, empty dicts too -/
structure Sh (dep len : Nat) (d : D) : Prop where
  ex : ∃ p, py d = some p ∧ p.showable = true ∧ p.depth ≤ dep ∧ p.shown.length ≤ len
section
variable {S : Store} {QD : D → Store → Prop} {a b n : Nat} {d x y : D} {l : List D}
end
end DL
namespace DL
open PySem PySem.Spec PyProof.Rows L2
/-! ### tables of factors as dicts -/
namespace Pl
def kk (k : Pw) : List Key := k.map Sum.inl
def tbl (l : Pol) : List (List Key × D) := l.map fun x => (kk x.1, .int x.2)
end Pl
section
variable {α β : Type} {S S1 : Store} {fr : Frame} {QD : D → Store → Prop} {QL : List D → Store → Prop} {QU : Unit → Store → Prop} {i j : Int} {n m : Nat} {d x y : D} {l : List D} {p q : Pol} {k : Pw}
end
end DL
namespace DL.Lb
open PySem PySem.Spec PyProof.Rows L2 DL
/-! ### the program's functions of polynomials -/
noncomputable def B_constant : SM := retF (iteF (tbF (binF neD (varF 1) (cstF (.int 0)))) (tupP [tupF [binF mulT (tupF [cstF (.int 0)]) (varF 0), varF 1]]) (tupP []))
noncomputable abbrev F_constant : List D → M D := defF 2 B_constant
noncomputable def E_made_1 : DL.Frame → M D := tupF [varF 1, varF 2]
noncomputable def T_made_1 : DL.Frame → M Bool := tbF (binF neD (varF 2) (cstF (.int 0)))
noncomputable def B_made : SM := retF (calF tupleP [calF sortedX [cmpI [1, 2] 0 (tgTup [tgName 1, tgName 2]) (T_made_1) (E_made_1)]])
noncomputable abbrev F_made : List D → M D := defF 3 B_made
noncomputable def E_times_1 : DL.Frame → M D := binF addD (varF 8) (varF 9)
noncomputable def L_times_2 : SM := seqS (asgF 7 (calF tupleD [cmpD [8, 9] (rngF zipS [varF 3, varF 5]) (tgTup [tgName 8, tgName 9]) (yesF) (E_times_1)])) (asgG (tgDic (varF 2) (varF 7)) (binF addD (getF (varF 2) (varF 7) (cstF (.int 0))) (binF mulD (varF 4) (varF 6))))
noncomputable def L_times_1 : SM := forF (itF (varF 1)) (tgTup [tgName 5, tgName 6]) (L_times_2)
noncomputable def B_times : SM := seqS (asgF 2 (dctT)) (seqS (forF (itF (varF 0)) (tgTup [tgName 3, tgName 4]) (L_times_1)) (retF (calF (fun xs => F_made (xs ++ [])) [varF 2])))
noncomputable abbrev F_times : List D → M D := defF 10 B_times
noncomputable def E_unknown_1 : DL.Frame → M D := calF intD [binF eqD (varF 2) (varF 1)]
noncomputable def B_unknown : SM := retF (tupP [tupF [calF tupleD [cmpD [2] (rngF rng1 [varF 0]) (tgName 2) (yesF) (E_unknown_1)], cstF (.int 1)]])
noncomputable abbrev F_unknown : List D → M D := defF 3 B_unknown
noncomputable def L_plus_1 : SM := asgG (tgDic (varF 2) (varF 3)) (binF addD (getF (varF 2) (varF 3) (cstF (.int 0))) (varF 4))
noncomputable def B_plus : SM := seqS (asgF 2 (calF dictD [varF 0])) (seqS (forF (itF (varF 1)) (tgTup [tgName 3, tgName 4]) (L_plus_1)) (retF (calF (fun xs => F_made (xs ++ [])) [varF 2])))
noncomputable abbrev F_plus : List D → M D := defF 5 B_plus
noncomputable def E_minus_1 : DL.Frame → M D := tupF [varF 2, binF subD (cstF (.int 0)) (varF 3)]
noncomputable def B_minus : SM := retF (calF (fun xs => F_plus (xs ++ [])) [varF 0, calF tupleD [cmpD [2, 3] (itF (varF 1)) (tgTup [tgName 2, tgName 3]) (yesF) (E_minus_1)]])
noncomputable abbrev F_minus : List D → M D := defF 4 B_minus
noncomputable def B_x_is_whole : SM := retF (andV (unF (isiD "int") (varF 0)) (andV (notV (unF (isiD "bool") (varF 0))) (binF geD (varF 0) (varF 1))))
noncomputable abbrev F_x_is_whole : List D → M D := defF 2 B_x_is_whole
noncomputable def E_x_is_poly_1 : DL.Frame → M D := varF 5
noncomputable def T_x_is_poly_1 : DL.Frame → M Bool := notF (tstF (calF (fun xs => F_x_is_whole (xs ++ [])) [varF 5, cstF (.int 0)]))
noncomputable def L_x_is_poly_1 : SM := seqS (ifS (orF (notF (tstF (unF (isiD "tuple") (varF 2)))) (orF (tbF (binF neD (calF lenD [varF 2]) (cstF (.int 2)))) (orF (notF (tstF (unF (isiD "tuple") (binF ixD (varF 2) (cstF (.int 0)))))) (tbF (binF neD (calF lenD [binF ixD (varF 2) (cstF (.int 0))]) (varF 1)))))) (retF (cstF (.bl false))) (nxF)) (seqS (ifS (tbF (binF neD (cmpD [5] (itF (binF ixD (varF 2) (cstF (.int 0)))) (tgName 5) (T_x_is_poly_1) (E_x_is_poly_1)) (lstF []))) (retF (cstF (.bl false))) (nxF)) (ifS (orF (notF (tstF (unF (isiD "int") (binF ixD (varF 2) (cstF (.int 1)))))) (orF (tstF (unF (isiD "bool") (binF ixD (varF 2) (cstF (.int 1))))) (tbF (binF eqD (binF ixD (varF 2) (cstF (.int 1))) (cstF (.int 0)))))) (retF (cstF (.bl false))) (nxF)))
noncomputable def E_x_is_poly_2 : DL.Frame → M D := binF ixD (varF 2) (cstF (.int 0))
noncomputable def E_x_is_poly_3 : DL.Frame → M D := varF 4
noncomputable def T_x_is_poly_3 : DL.Frame → M Bool := notF (tbF (binF ltX (binF ixD (varF 3) (binF subD (varF 4) (cstF (.int 1)))) (binF ixD (varF 3) (varF 4))))
noncomputable def B_x_is_poly : SM := seqS (ifS (notF (tstF (unF (isiD "tuple") (varF 0)))) (retF (cstF (.bl false))) (nxF)) (seqS (forF (itF (varF 0)) (tgName 2) (L_x_is_poly_1)) (seqS (asgF 3 (cmpD [2] (itF (varF 0)) (tgName 2) (yesF) (E_x_is_poly_2))) (retF (binF eqD (cmpD [4] (rngF rng2 [cstF (.int 1), calF lenD [varF 3]]) (tgName 4) (T_x_is_poly_3) (E_x_is_poly_3)) (lstF [])))))
noncomputable abbrev F_x_is_poly : List D → M D := defF 6 B_x_is_poly
local macro_rules | `(tactic| and_intros) => `(tactic| repeat (first | with_reducible refine StpA.go ?_ | with_reducible refine StpB.go ?_ | ((with_reducible refine Ok.var ?_); refine ⟨_, rfl, ?_⟩) | ((with_reducible refine Fr.go ?_); intro fr_ e_; simp only [List.set_cons_zero, List.set_cons_succ, setAll, wipeF] at e_; subst e_) | ((with_reducible refine Ok.tgT ?_ ?_); (exact rfl)) | ((with_reducible refine Ok.tgQt ?_ ?_); (exact rfl)) | ((with_reducible refine Ok.tgQl ?_ ?_); (exact rfl)) | with_reducible refine Ok.tupP ?_ | with_reducible refine Ok.tupleP ?_ | ((with_reducible refine Ok.isi_ptu (p := true) ?_ ?_); decide +kernel) | ((with_reducible refine Ok.isi_ptu (p := false) ?_ ?_); decide +kernel) | with_reducible refine ItQ.ptu ?_ | with_reducible refine SrcQ.ptu ?_ | with_reducible refine Ok.len_p ?_ | with_reducible refine Ok.sli_tail ?_ | ((with_reducible refine OkS.aug ?_); refine ⟨_, rfl, ?_⟩) | ((with_reducible refine Ok.ix_t ?_); refine ⟨_, rfl, ?_⟩) | ((with_reducible refine Ok.ix_l ?_); refine ⟨_, rfl, ?_⟩) | ((with_reducible refine Ok.tgT ?_ ?_); exact rfl) | with_reducible refine Ok.sli_t ?_ | with_reducible refine Ok.sli_l ?_ | ((with_reducible refine Ok.mod_ii ?_ ?_); (first | decide | (simp; done) | (simp; omega))) | ((with_reducible refine Ok.add_tt ?_ ?_); (first | decide | (simp; done) | (simp; omega))) | ((with_reducible refine Ok.add_ll ?_ ?_); (first | decide | (simp; done) | (simp; omega))) | ((with_reducible refine Ok.add_ss ?_ ?_); (first | decide | (simp; done) | (simp; omega))) | ((with_reducible refine Ok.rng1 ?_ ?_); (first | decide | omega | (simp; omega))) | ((with_reducible refine Br.dt ?_ ?_); (first | assumption | exact rfl | omega | decide +kernel)) | ((with_reducible refine Br.df ?_ ?_); (first | assumption | omega | decide +kernel)) | ((with_reducible refine Br.tt ?_ ?_); (first | assumption | decide +kernel)) | ((with_reducible refine Br.ff ?_ ?_); (first | assumption | decide +kernel)) | ((with_reducible refine Ok.isi_tup (p := true) ?_ ?_); decide +kernel) | ((with_reducible refine Ok.isi_tup (p := false) ?_ ?_); decide +kernel) | ((with_reducible refine Ok.isi_int (p := true) ?_ ?_); decide +kernel) | ((with_reducible refine Ok.isi_int (p := false) ?_ ?_); decide +kernel) | ((with_reducible refine Ok.isi_str (p := true) ?_ ?_); decide +kernel) | ((with_reducible refine Ok.isi_str (p := false) ?_ ?_); decide +kernel) | ((with_reducible refine Ok.isi_lst (p := true) ?_ ?_); decide +kernel) | ((with_reducible refine Ok.isi_lst (p := false) ?_ ?_); decide +kernel) | ((with_reducible refine Ok.isi_bl (p := true) ?_ ?_); decide +kernel) | ((with_reducible refine Ok.isi_bl (p := false) ?_ ?_); decide +kernel) | ((with_reducible refine Ok.isi_non (p := true) ?_ ?_); decide +kernel) | ((with_reducible refine Ok.isi_non (p := false) ?_ ?_); decide +kernel) | ((with_reducible refine Ok.isi_ctu (p := true) ?_ ?_); decide +kernel) | ((with_reducible refine Ok.isi_ctu (p := false) ?_ ?_); decide +kernel) | ((with_reducible refine Ok.isi_emp (p := true) ?_ ?_); decide +kernel) | ((with_reducible refine Ok.isi_emp (p := false) ?_ ?_); decide +kernel)))
section
variable {S : Store} {QD : D → Store → Prop} {QS : Fl → DL.Frame → Store → Prop} {QL : List D → Store → Prop} {n m : Nat} {p q : Pol}
/-! ### sums -/
/-- a polynomial, or the pairs of one in a tuple -/
def PD (q : Pol) (y : D) : Prop := y = .ptu (q.map Pl.prD) ∨ y = .tup (q.map Pl.prD)
/-! ### products -/
/-! ### constants, unknowns -/
end
end DL.Lb
namespace DL.Lb
open PySem PySem.Spec PyProof.Rows L2 DL
local macro_rules | `(tactic| and_intros) => `(tactic| repeat (first | with_reducible refine StpA.go ?_ | with_reducible refine StpB.go ?_ | ((with_reducible refine Ok.var ?_); refine ⟨_, rfl, ?_⟩) | ((with_reducible refine Fr.go ?_); intro fr_ e_; simp only [List.set_cons_zero, List.set_cons_succ, setAll, wipeF] at e_; subst e_) | ((with_reducible refine Ok.tgT ?_ ?_); (exact rfl)) | ((with_reducible refine Ok.tgQt ?_ ?_); (exact rfl)) | ((with_reducible refine Ok.tgQl ?_ ?_); (exact rfl)) | with_reducible refine Ok.tupP ?_ | with_reducible refine Ok.tupleP ?_ | ((with_reducible refine Ok.isi_ptu (p := true) ?_ ?_); decide +kernel) | ((with_reducible refine Ok.isi_ptu (p := false) ?_ ?_); decide +kernel) | with_reducible refine ItQ.ptu ?_ | with_reducible refine SrcQ.ptu ?_ | with_reducible refine Ok.len_p ?_ | with_reducible refine Ok.sli_tail ?_ | ((with_reducible refine OkS.aug ?_); refine ⟨_, rfl, ?_⟩) | ((with_reducible refine Ok.ix_t ?_); refine ⟨_, rfl, ?_⟩) | ((with_reducible refine Ok.ix_l ?_); refine ⟨_, rfl, ?_⟩) | ((with_reducible refine Ok.tgT ?_ ?_); exact rfl) | with_reducible refine Ok.sli_t ?_ | with_reducible refine Ok.sli_l ?_ | ((with_reducible refine Ok.mod_ii ?_ ?_); (first | decide | (simp; done) | (simp; omega))) | ((with_reducible refine Ok.add_tt ?_ ?_); (first | decide | (simp; done) | (simp; omega))) | ((with_reducible refine Ok.add_ll ?_ ?_); (first | decide | (simp; done) | (simp; omega))) | ((with_reducible refine Ok.add_ss ?_ ?_); (first | decide | (simp; done) | (simp; omega))) | ((with_reducible refine Ok.rng1 ?_ ?_); (first | decide | omega | (simp; omega))) | ((with_reducible refine Br.dt ?_ ?_); (first | assumption | exact rfl | omega | decide +kernel)) | ((with_reducible refine Br.df ?_ ?_); (first | assumption | omega | decide +kernel)) | ((with_reducible refine Br.tt ?_ ?_); (first | assumption | decide +kernel)) | ((with_reducible refine Br.ff ?_ ?_); (first | assumption | decide +kernel)) | ((with_reducible refine Ok.isi_tup (p := true) ?_ ?_); decide +kernel) | ((with_reducible refine Ok.isi_tup (p := false) ?_ ?_); decide +kernel) | ((with_reducible refine Ok.isi_int (p := true) ?_ ?_); decide +kernel) | ((with_reducible refine Ok.isi_int (p := false) ?_ ?_); decide +kernel) | ((with_reducible refine Ok.isi_str (p := true) ?_ ?_); decide +kernel) | ((with_reducible refine Ok.isi_str (p := false) ?_ ?_); decide +kernel) | ((with_reducible refine Ok.isi_lst (p := true) ?_ ?_); decide +kernel) | ((with_reducible refine Ok.isi_lst (p := false) ?_ ?_); decide +kernel) | ((with_reducible refine Ok.isi_bl (p := true) ?_ ?_); decide +kernel) | ((with_reducible refine Ok.isi_bl (p := false) ?_ ?_); decide +kernel) | ((with_reducible refine Ok.isi_non (p := true) ?_ ?_); decide +kernel) | ((with_reducible refine Ok.isi_non (p := false) ?_ ?_); decide +kernel) | ((with_reducible refine Ok.isi_ctu (p := true) ?_ ?_); decide +kernel) | ((with_reducible refine Ok.isi_ctu (p := false) ?_ ?_); decide +kernel) | ((with_reducible refine Ok.isi_emp (p := true) ?_ ?_); decide +kernel) | ((with_reducible refine Ok.isi_emp (p := false) ?_ ?_); decide +kernel)))
/-! ### the laws' look at a polynomial -/
section
variable {S : Store} {QD : D → Store → Prop} {QS : Fl → DL.Frame → Store → Prop} {QL : List D → Store → Prop} {n m : Nat} {p q : Pol}
end
end DL.Lb
namespace DL
open PySem PySem.Spec PyProof.Rows L2
local macro_rules | `(tactic| and_intros) => `(tactic| repeat (first | with_reducible refine StpA.go ?_ | with_reducible refine StpB.go ?_ | ((with_reducible refine Ok.var ?_); refine ⟨_, rfl, ?_⟩) | ((with_reducible refine Fr.go ?_); intro fr_ e_; simp only [List.set_cons_zero, List.set_cons_succ, setAll, wipeF] at e_; subst e_) | ((with_reducible refine Ok.tgT ?_ ?_); (exact rfl)) | ((with_reducible refine Ok.tgQt ?_ ?_); (exact rfl)) | ((with_reducible refine Ok.tgQl ?_ ?_); (exact rfl)) | with_reducible refine Ok.tupP ?_ | with_reducible refine Ok.tupleP ?_ | ((with_reducible refine Ok.isi_ptu (p := true) ?_ ?_); decide +kernel) | ((with_reducible refine Ok.isi_ptu (p := false) ?_ ?_); decide +kernel) | with_reducible refine ItQ.ptu ?_ | with_reducible refine SrcQ.ptu ?_ | with_reducible refine Ok.len_p ?_ | with_reducible refine Ok.sli_tail ?_ | ((with_reducible refine OkS.aug ?_); refine ⟨_, rfl, ?_⟩) | ((with_reducible refine Ok.ix_t ?_); refine ⟨_, rfl, ?_⟩) | ((with_reducible refine Ok.ix_l ?_); refine ⟨_, rfl, ?_⟩) | ((with_reducible refine Ok.tgT ?_ ?_); exact rfl) | with_reducible refine Ok.sli_t ?_ | with_reducible refine Ok.sli_l ?_ | ((with_reducible refine Ok.mod_ii ?_ ?_); (first | decide | (simp; done) | (simp; omega))) | ((with_reducible refine Ok.add_tt ?_ ?_); (first | decide | (simp; done) | (simp; omega))) | ((with_reducible refine Ok.add_ll ?_ ?_); (first | decide | (simp; done) | (simp; omega))) | ((with_reducible refine Ok.add_ss ?_ ?_); (first | decide | (simp; done) | (simp; omega))) | ((with_reducible refine Ok.rng1 ?_ ?_); (first | decide | omega | (simp; omega))) | ((with_reducible refine Br.dt ?_ ?_); (first | assumption | exact rfl | omega | decide +kernel)) | ((with_reducible refine Br.df ?_ ?_); (first | assumption | omega | decide +kernel)) | ((with_reducible refine Br.tt ?_ ?_); (first | assumption | decide +kernel)) | ((with_reducible refine Br.ff ?_ ?_); (first | assumption | decide +kernel)) | ((with_reducible refine Ok.isi_tup (p := true) ?_ ?_); decide +kernel) | ((with_reducible refine Ok.isi_tup (p := false) ?_ ?_); decide +kernel) | ((with_reducible refine Ok.isi_int (p := true) ?_ ?_); decide +kernel) | ((with_reducible refine Ok.isi_int (p := false) ?_ ?_); decide +kernel) | ((with_reducible refine Ok.isi_str (p := true) ?_ ?_); decide +kernel) | ((with_reducible refine Ok.isi_str (p := false) ?_ ?_); decide +kernel) | ((with_reducible refine Ok.isi_lst (p := true) ?_ ?_); decide +kernel) | ((with_reducible refine Ok.isi_lst (p := false) ?_ ?_); decide +kernel) | ((with_reducible refine Ok.isi_bl (p := true) ?_ ?_); decide +kernel) | ((with_reducible refine Ok.isi_bl (p := false) ?_ ?_); decide +kernel) | ((with_reducible refine Ok.isi_non (p := true) ?_ ?_); decide +kernel) | ((with_reducible refine Ok.isi_non (p := false) ?_ ?_); decide +kernel) | ((with_reducible refine Ok.isi_ctu (p := true) ?_ ?_); decide +kernel) | ((with_reducible refine Ok.isi_ctu (p := false) ?_ ?_); decide +kernel) | ((with_reducible refine Ok.isi_emp (p := true) ?_ ?_); decide +kernel) | ((with_reducible refine Ok.isi_emp (p := false) ?_ ?_); decide +kernel)))
namespace Pl
/-! ### polynomials shown and compared -/
/-! ### the rules -/
section
variable {m : Nat} {a b c : Pol}
end
end Pl
end DL
namespace DL
open PySem PySem.Spec PyProof.Rows L2
/-! ### a comprehension over a list that stays an object -/
section
variable {S : Store} {fr : Frame} {QL : List D → Store → Prop} {g : D → Frame → M Frame} {t : Frame → M Bool} {elt : Frame → M D} {xs r : List D} {x : D} {src : Src} {k ix : Nat} {vs : List Nat}
end
end DL
namespace DL.Pl
open PySem PySem.Spec PyProof.Rows L2 DL
/-! ### what polynomials come to at some numbers -/
def mono : List Int → Pw → Int
  | n :: ns, k :: ks => n ^ k.toNat * mono ns ks
  | _, _ => 1
def val (ns : List Int) (p : Pol) : Int := lin p (mono ns)
section
variable {m : Nat} {p q : Pol} {ns : List Int}
def deg (k : Pw) : Nat := (k.map Int.toNat).sum
end
end DL.Pl
namespace DL.Lb
open PySem PySem.Spec PyProof.Rows L2 DL
local macro_rules | `(tactic| and_intros) => `(tactic| repeat (first | with_reducible refine StpA.go ?_ | with_reducible refine StpB.go ?_ | ((with_reducible refine Ok.var ?_); refine ⟨_, rfl, ?_⟩) | ((with_reducible refine Fr.go ?_); intro fr_ e_; simp only [List.set_cons_zero, List.set_cons_succ, setAll, wipeF] at e_; subst e_) | ((with_reducible refine Ok.tgT ?_ ?_); (exact rfl)) | ((with_reducible refine Ok.tgQt ?_ ?_); (exact rfl)) | ((with_reducible refine Ok.tgQl ?_ ?_); (exact rfl)) | with_reducible refine Ok.tupP ?_ | with_reducible refine Ok.tupleP ?_ | ((with_reducible refine Ok.isi_ptu (p := true) ?_ ?_); decide +kernel) | ((with_reducible refine Ok.isi_ptu (p := false) ?_ ?_); decide +kernel) | with_reducible refine ItQ.ptu ?_ | with_reducible refine SrcQ.ptu ?_ | with_reducible refine Ok.len_p ?_ | with_reducible refine Ok.sli_tail ?_ | ((with_reducible refine OkS.aug ?_); refine ⟨_, rfl, ?_⟩) | ((with_reducible refine Ok.ix_t ?_); refine ⟨_, rfl, ?_⟩) | ((with_reducible refine Ok.ix_l ?_); refine ⟨_, rfl, ?_⟩) | ((with_reducible refine Ok.tgT ?_ ?_); exact rfl) | with_reducible refine Ok.sli_t ?_ | with_reducible refine Ok.sli_l ?_ | ((with_reducible refine Ok.mod_ii ?_ ?_); (first | decide | (simp; done) | (simp; omega))) | ((with_reducible refine Ok.add_tt ?_ ?_); (first | decide | (simp; done) | (simp; omega))) | ((with_reducible refine Ok.add_ll ?_ ?_); (first | decide | (simp; done) | (simp; omega))) | ((with_reducible refine Ok.add_ss ?_ ?_); (first | decide | (simp; done) | (simp; omega))) | ((with_reducible refine Ok.rng1 ?_ ?_); (first | decide | omega | (simp; omega))) | ((with_reducible refine Br.dt ?_ ?_); (first | assumption | exact rfl | omega | decide +kernel)) | ((with_reducible refine Br.df ?_ ?_); (first | assumption | omega | decide +kernel)) | ((with_reducible refine Br.tt ?_ ?_); (first | assumption | decide +kernel)) | ((with_reducible refine Br.ff ?_ ?_); (first | assumption | decide +kernel)) | ((with_reducible refine Ok.isi_tup (p := true) ?_ ?_); decide +kernel) | ((with_reducible refine Ok.isi_tup (p := false) ?_ ?_); decide +kernel) | ((with_reducible refine Ok.isi_int (p := true) ?_ ?_); decide +kernel) | ((with_reducible refine Ok.isi_int (p := false) ?_ ?_); decide +kernel) | ((with_reducible refine Ok.isi_str (p := true) ?_ ?_); decide +kernel) | ((with_reducible refine Ok.isi_str (p := false) ?_ ?_); decide +kernel) | ((with_reducible refine Ok.isi_lst (p := true) ?_ ?_); decide +kernel) | ((with_reducible refine Ok.isi_lst (p := false) ?_ ?_); decide +kernel) | ((with_reducible refine Ok.isi_bl (p := true) ?_ ?_); decide +kernel) | ((with_reducible refine Ok.isi_bl (p := false) ?_ ?_); decide +kernel) | ((with_reducible refine Ok.isi_non (p := true) ?_ ?_); decide +kernel) | ((with_reducible refine Ok.isi_non (p := false) ?_ ?_); decide +kernel) | ((with_reducible refine Ok.isi_ctu (p := true) ?_ ?_); decide +kernel) | ((with_reducible refine Ok.isi_ctu (p := false) ?_ ?_); decide +kernel) | ((with_reducible refine Ok.isi_emp (p := true) ?_ ?_); decide +kernel) | ((with_reducible refine Ok.isi_emp (p := false) ?_ ?_); decide +kernel)))
noncomputable def L_pair_value_2 : SM := asgF 3 (binF mulD (varF 3) (varF 5))
noncomputable def L_pair_value_1 : SM := forF (rngF rng1 [varF 4]) (tgName 6) (L_pair_value_2)
noncomputable def B_pair_value : SM := seqS (asgF 3 (varF 1)) (seqS (forF (rngF zipS [varF 0, varF 2]) (tgTup [tgName 4, tgName 5]) (L_pair_value_1)) (retF (varF 3)))
noncomputable abbrev F_pair_value : List D → M D := defF 7 B_pair_value
noncomputable def E_value_of_1 : DL.Frame → M D := calF (fun xs => F_pair_value (xs ++ [])) [varF 2, varF 3, varF 1]
noncomputable def B_value_of : SM := retF (calF sumD [cmpD [2, 3] (itF (varF 0)) (tgTup [tgName 2, tgName 3]) (yesF) (E_value_of_1)])
noncomputable abbrev F_value_of : List D → M D := defF 4 B_value_of
noncomputable def L_x_value_3 : SM := asgF 5 (binF mulD (varF 5) (varF 7))
noncomputable def L_x_value_2 : SM := forF (rngF rng1 [varF 6]) (tgName 8) (L_x_value_3)
noncomputable def L_x_value_1 : SM := seqS (asgF 5 (varF 4)) (seqS (forF (rngF zipS [varF 3, varF 1]) (tgTup [tgName 6, tgName 7]) (L_x_value_2)) (asgF 2 (binF addD (varF 2) (varF 5))))
noncomputable def B_x_value : SM := seqS (asgF 2 (cstF (.int 0))) (seqS (forF (itF (varF 0)) (tgTup [tgName 3, tgName 4]) (L_x_value_1)) (retF (varF 2)))
noncomputable abbrev F_x_value : List D → M D := defF 9 B_x_value
section
variable {S : Store} {QD : D → Store → Prop} {QS : Fl → DL.Frame → Store → Prop} {QL : List D → Store → Prop} {A C M m : Nat} {p q : Pol}
/-- the numbers at which a polynomial is worked out are small enough -/
structure Vl (C M A : Nat) (ns : List Int) (p : Pol) : Prop where
  c1 : 1 ≤ C
  c2 : C < 2 ^ 140
  m2 : M < 2 ^ A
  a1 : 1 ≤ A ∧ A ≤ 900000
  ns : ∀ x ∈ ns, x.natAbs ≤ C
  ks : ∀ y ∈ p, (∀ i ∈ y.1, 0 ≤ i ∧ i ≤ 1000) ∧ y.2.natAbs * C ^ Pl.deg y.1 ≤ M
end
end DL.Lb
namespace DL
open PySem PySem.Spec PyProof.Rows L2
local macro_rules | `(tactic| and_intros) => `(tactic| repeat (first | with_reducible refine StpA.go ?_ | with_reducible refine StpB.go ?_ | ((with_reducible refine Ok.var ?_); refine ⟨_, rfl, ?_⟩) | ((with_reducible refine Fr.go ?_); intro fr_ e_; simp only [List.set_cons_zero, List.set_cons_succ, setAll, wipeF] at e_; subst e_) | ((with_reducible refine Ok.tgT ?_ ?_); (exact rfl)) | ((with_reducible refine Ok.tgQt ?_ ?_); (exact rfl)) | ((with_reducible refine Ok.tgQl ?_ ?_); (exact rfl)) | with_reducible refine Ok.tupP ?_ | with_reducible refine Ok.tupleP ?_ | ((with_reducible refine Ok.isi_ptu (p := true) ?_ ?_); decide +kernel) | ((with_reducible refine Ok.isi_ptu (p := false) ?_ ?_); decide +kernel) | with_reducible refine ItQ.ptu ?_ | with_reducible refine SrcQ.ptu ?_ | with_reducible refine Ok.len_p ?_ | with_reducible refine Ok.sli_tail ?_ | ((with_reducible refine OkS.aug ?_); refine ⟨_, rfl, ?_⟩) | ((with_reducible refine Ok.ix_t ?_); refine ⟨_, rfl, ?_⟩) | ((with_reducible refine Ok.ix_l ?_); refine ⟨_, rfl, ?_⟩) | ((with_reducible refine Ok.tgT ?_ ?_); exact rfl) | with_reducible refine Ok.sli_t ?_ | with_reducible refine Ok.sli_l ?_ | ((with_reducible refine Ok.mod_ii ?_ ?_); (first | decide | (simp; done) | (simp; omega))) | ((with_reducible refine Ok.add_tt ?_ ?_); (first | decide | (simp; done) | (simp; omega))) | ((with_reducible refine Ok.add_ll ?_ ?_); (first | decide | (simp; done) | (simp; omega))) | ((with_reducible refine Ok.add_ss ?_ ?_); (first | decide | (simp; done) | (simp; omega))) | ((with_reducible refine Ok.rng1 ?_ ?_); (first | decide | omega | (simp; omega))) | ((with_reducible refine Br.dt ?_ ?_); (first | assumption | exact rfl | omega | decide +kernel)) | ((with_reducible refine Br.df ?_ ?_); (first | assumption | omega | decide +kernel)) | ((with_reducible refine Br.tt ?_ ?_); (first | assumption | decide +kernel)) | ((with_reducible refine Br.ff ?_ ?_); (first | assumption | decide +kernel)) | ((with_reducible refine Ok.isi_tup (p := true) ?_ ?_); decide +kernel) | ((with_reducible refine Ok.isi_tup (p := false) ?_ ?_); decide +kernel) | ((with_reducible refine Ok.isi_int (p := true) ?_ ?_); decide +kernel) | ((with_reducible refine Ok.isi_int (p := false) ?_ ?_); decide +kernel) | ((with_reducible refine Ok.isi_str (p := true) ?_ ?_); decide +kernel) | ((with_reducible refine Ok.isi_str (p := false) ?_ ?_); decide +kernel) | ((with_reducible refine Ok.isi_lst (p := true) ?_ ?_); decide +kernel) | ((with_reducible refine Ok.isi_lst (p := false) ?_ ?_); decide +kernel) | ((with_reducible refine Ok.isi_bl (p := true) ?_ ?_); decide +kernel) | ((with_reducible refine Ok.isi_bl (p := false) ?_ ?_); decide +kernel) | ((with_reducible refine Ok.isi_non (p := true) ?_ ?_); decide +kernel) | ((with_reducible refine Ok.isi_non (p := false) ?_ ?_); decide +kernel) | ((with_reducible refine Ok.isi_ctu (p := true) ?_ ?_); decide +kernel) | ((with_reducible refine Ok.isi_ctu (p := false) ?_ ?_); decide +kernel) | ((with_reducible refine Ok.isi_emp (p := true) ?_ ?_); decide +kernel) | ((with_reducible refine Ok.isi_emp (p := false) ?_ ?_); decide +kernel)))
/-! ### lists that stay objects: loops, shown, one of them -/
section
variable {S : Store} {fr : Frame} {QD : D → Store → Prop} {QS : Fl → Frame → Store → Prop} {xs r l : List D} {x : D} {src : Src} {k ix n m a b : Nat} {g : D → Frame → M Frame} {body : SM}
/-- stop here: the list is an object -/
def Hold (P : Prop) : Prop := P
end
end DL
/-! ### an arithmetic -/
namespace DL
open PySem PySem.Spec PyProof.Rows L2
/-- numbers of any kind, with the methods that reckon with them -/
structure Ari where
  N : Type
  num : N → D
  cst : Int → N
  add : N → N → N
  sub : N → N → N
  mul : N → N → N
  cl : Str
  fl : List (Str × D)
  tc : Tab
  tp : Tab
  tm : Tab
  tt : Tab
/-- P: what may be multiplied; P2: what may be added and taken away -/
structure Ari.Good (A : Ari) (P P2 : A.N → Prop) : Prop where
  n : A.fl.lookup ("constant" : Str) = none ∧ A.fl.lookup ("plus" : Str) = none ∧ A.fl.lookup ("minus" : Str) = none ∧ A.fl.lookup ("times" : Str) = none
  c : ∃ F, A.tc.lookup A.cl = some F ∧ ∀ {a : Nat} {i : Int} {S : Store} {Q : D → Store → Prop}, S[a]? = some (some (.ins A.cl A.fl)) → (∀ T, Ext S T → Q (A.num (A.cst i)) T) → Ok (F [.ob a, .int i] S) Q
  p : ∃ F, A.tp.lookup A.cl = some F ∧ ∀ {a : Nat} {x y : A.N} {S : Store} {Q : D → Store → Prop}, S[a]? = some (some (.ins A.cl A.fl)) → P2 x → P2 y → (∀ T, Ext S T → Q (A.num (A.add x y)) T) → Ok (F [.ob a, A.num x, A.num y] S) Q
  m : ∃ F, A.tm.lookup A.cl = some F ∧ ∀ {a : Nat} {x y : A.N} {S : Store} {Q : D → Store → Prop}, S[a]? = some (some (.ins A.cl A.fl)) → P2 x → P2 y → (∀ T, Ext S T → Q (A.num (A.sub x y)) T) → Ok (F [.ob a, A.num x, A.num y] S) Q
  t : ∃ F, A.tt.lookup A.cl = some F ∧ ∀ {a : Nat} {x y : A.N} {S : Store} {Q : D → Store → Prop}, S[a]? = some (some (.ins A.cl A.fl)) → P x → P y → (∀ T, Ext S T → Q (A.num (A.mul x y)) T) → Ok (F [.ob a, A.num x, A.num y] S) Q
  pc : ∀ i : Int, 0 ≤ i → i ≤ 10 → P (A.cst i)
  p2 : ∀ x, P x → P2 x
  p10 : ∀ x, P x → P2 (A.mul (A.cst 10) x)
section
variable {A : Ari} {S : Store} {QD : D → Store → Prop} {l m : List A.N} {x y : A.N}
end
/-- a machine's parts -/
structure Gt (N : Type) where
  lv : List N
  kp : N
  mem : N
  way : Str
def comeG {N : Type} (way : Str) (n : N) (l : List N) : List N := if way = "held" then n :: l.drop 1 else n :: l.dropLast
def Gt.come {N : Type} (s : Gt N) (n : N) : Gt N := ⟨comeG s.way n s.lv, s.kp, s.mem, s.way⟩
def Ari.pressS (A : Ari) (deep : Str) (l : List A.N) : Ky → Gt A.N → Gt A.N
  | .dig n, s => ⟨if s.way = "open" then A.add (A.mul (A.cst 10) (s.lv.getD 0 (A.cst 0))) (A.cst (n.val : Nat)) :: s.lv.drop 1 else comeG s.way (A.cst (n.val : Nat)) s.lv, s.kp, s.mem, "open"⟩
  | .lett i, s => ⟨comeG s.way (l.getD i.val (A.cst 0)) s.lv, s.kp, s.mem, "free"⟩
  | .enter, s => ⟨s.lv.getD 0 (A.cst 0) :: s.lv.dropLast, s.kp, s.mem, "held"⟩
  | .clear, s => ⟨A.cst 0 :: s.lv.drop 1, s.kp, s.mem, "held"⟩
  | .plus, s => ⟨A.add (s.lv.getD 1 (A.cst 0)) (s.lv.getD 0 (A.cst 0)) :: s.lv.drop 2 ++ [if deep = "copy" then s.lv.getD (s.lv.length - 1) (A.cst 0) else A.cst 0], s.kp, s.mem, "free"⟩
  | .minus, s => ⟨A.sub (s.lv.getD 1 (A.cst 0)) (s.lv.getD 0 (A.cst 0)) :: s.lv.drop 2 ++ [if deep = "copy" then s.lv.getD (s.lv.length - 1) (A.cst 0) else A.cst 0], s.kp, s.mem, "free"⟩
  | .times, s => ⟨A.mul (s.lv.getD 1 (A.cst 0)) (s.lv.getD 0 (A.cst 0)) :: s.lv.drop 2 ++ [if deep = "copy" then s.lv.getD (s.lv.length - 1) (A.cst 0) else A.cst 0], s.kp, s.mem, "free"⟩
  | .neg, s => ⟨A.sub (A.cst 0) (s.lv.getD 0 (A.cst 0)) :: s.lv.drop 1, s.kp, s.mem, "free"⟩
  | .swap, s => ⟨s.lv.getD 1 (A.cst 0) :: s.lv.getD 0 (A.cst 0) :: s.lv.drop 2, s.kp, s.mem, "free"⟩
  | .down, s => ⟨s.lv.drop 1 ++ s.lv.take 1, s.kp, s.mem, "free"⟩
  | .up, s => ⟨s.lv.drop (s.lv.length - 1) ++ s.lv.dropLast, s.kp, s.mem, "free"⟩
  | .last, s => ⟨comeG s.way s.kp s.lv, s.kp, s.mem, "free"⟩
  | .put, s => ⟨s.lv, s.kp, s.lv.getD 0 (A.cst 0), "free"⟩
  | .get, s => ⟨comeG s.way s.mem s.lv, s.kp, s.mem, "free"⟩
def Ari.keepS (A : Ari) (ks : List Str) (k : Ky) (s : Gt A.N) : Gt A.N := ⟨s.lv, if decide (k.s ∈ ks) = true then s.lv.getD 0 (A.cst 0) else s.kp, s.mem, s.way⟩
def Ari.pressN (A : Ari) (deep : Str) (ks : List Str) (l : List A.N) (k : Ky) (s : Gt A.N) : Gt A.N := A.pressS deep l k (A.keepS ks k s)
/-- all of a machine's numbers -/
def Gt.All {N : Type} (P : N → Prop) (s : Gt N) : Prop := (∀ x ∈ s.lv, P x) ∧ P s.kp ∧ P s.mem
end DL
namespace DL.Lg
open PySem PySem.Spec PyProof.Rows L2 DL
noncomputable def B_Box_levels : SM := retF (binF ixD (fldF ["Box"] "_rules" (varF 0)) (cstF (.int 0)))
noncomputable abbrev F_Box_levels : List D → M D := defF 1 B_Box_levels
noncomputable def B_Machine_init : SM := seqS (asgG (tgAtt ["Machine"] "rules" (varF 0)) (varF 1)) (seqS (asgG (tgTup [tgAtt ["Machine"] "stack" (varF 0), tgAtt ["Machine"] "kept" (varF 0), tgAtt ["Machine"] "store" (varF 0), tgAtt ["Machine"] "way" (varF 0)]) (varF 2)) (seqS (asgG (tgAtt ["Machine"] "keyed" (varF 0)) (varF 3)) (asgG (tgAtt ["Machine"] "arithmetic" (varF 0)) (varF 4))))
noncomputable abbrev F_Machine_init : List D → M D := defF 5 B_Machine_init
noncomputable def B_Machine_come_in : SM := ifS (tbF (binF eqD (fldF ["Machine"] "way" (varF 0)) (cstF (.str "held")))) (asgG (tgAtt ["Machine"] "stack" (varF 0)) (binF addD (tupF [varF 1]) (sliF sliD (fldF ["Machine"] "stack" (varF 0)) (some (cstF (.int 1))) none))) (asgG (tgAtt ["Machine"] "stack" (varF 0)) (binF addD (tupF [varF 1]) (sliF sliD (fldF ["Machine"] "stack" (varF 0)) none (some (unF negD (cstF (.int 1)))))))
noncomputable abbrev F_Machine_come_in : List D → M D := defF 2 B_Machine_come_in
noncomputable def B_Machine_press_digit (tc tp tt : Tab) : SM := seqS (asgF 2 (mtdF "constant" tc (fldF ["Machine"] "arithmetic" (varF 0)) [varF 1])) (seqS (ifS (tbF (binF eqD (fldF ["Machine"] "way" (varF 0)) (cstF (.str "open")))) (seqS (asgF 3 (mtdF "constant" tc (fldF ["Machine"] "arithmetic" (varF 0)) [cstF (.int 10)])) (seqS (asgF 4 (mtdF "plus" tp (fldF ["Machine"] "arithmetic" (varF 0)) [mtdF "times" tt (fldF ["Machine"] "arithmetic" (varF 0)) [varF 3, binF ixD (fldF ["Machine"] "stack" (varF 0)) (cstF (.int 0))], varF 2])) (asgG (tgAtt ["Machine"] "stack" (varF 0)) (binF addD (tupF [varF 4]) (sliF sliD (fldF ["Machine"] "stack" (varF 0)) (some (cstF (.int 1))) none))))) (exprF (mtdF "come_in" [("Machine", fun xs => F_Machine_come_in (xs ++ []))] (varF 0) [varF 2]))) (asgG (tgAtt ["Machine"] "way" (varF 0)) (cstF (.str "open"))))
noncomputable abbrev F_Machine_press_digit (tc tp tt : Tab) : List D → M D := defF 5 (B_Machine_press_digit tc tp tt)
noncomputable def B_Box_keeps : SM := retF (binF ixD (fldF ["Box"] "_rules" (varF 0)) (cstF (.int 2)))
noncomputable abbrev F_Box_keeps : List D → M D := defF 1 B_Box_keeps
noncomputable def B_Box_deepest : SM := retF (binF ixD (fldF ["Box"] "_rules" (varF 0)) (cstF (.int 1)))
noncomputable abbrev F_Box_deepest : List D → M D := defF 1 B_Box_deepest
noncomputable def B_Machine_press_sign (tc tp tm tt : Tab) : SM := seqS (parF [2, 3] [binF ixD (fldF ["Machine"] "stack" (varF 0)) (cstF (.int 0)), binF ixD (fldF ["Machine"] "stack" (varF 0)) (cstF (.int 1))]) (seqS (ifS (tbF (binF eqD (varF 1) (cstF (.str "+")))) (asgF 4 (mtdF "plus" tp (fldF ["Machine"] "arithmetic" (varF 0)) [varF 3, varF 2])) (ifS (tbF (binF eqD (varF 1) (cstF (.str "-")))) (asgF 4 (mtdF "minus" tm (fldF ["Machine"] "arithmetic" (varF 0)) [varF 3, varF 2])) (asgF 4 (mtdF "times" tt (fldF ["Machine"] "arithmetic" (varF 0)) [varF 3, varF 2])))) (seqS (asgF 5 (iteF (tbF (binF eqD (prpF [("Box", F_Box_deepest)] (fldF ["Machine"] "rules" (varF 0))) (cstF (.str "copy")))) (binF ixD (fldF ["Machine"] "stack" (varF 0)) (unF negD (cstF (.int 1)))) (mtdF "constant" tc (fldF ["Machine"] "arithmetic" (varF 0)) [cstF (.int 0)]))) (asgG (tgAtt ["Machine"] "stack" (varF 0)) (binF addD (binF addD (tupF [varF 4]) (sliF sliD (fldF ["Machine"] "stack" (varF 0)) (some (cstF (.int 2))) none)) (tupF [varF 5])))))
noncomputable abbrev F_Machine_press_sign (tc tp tm tt : Tab) : List D → M D := defF 6 (B_Machine_press_sign tc tp tm tt)
noncomputable def B_Machine_press_mover : SM := ifS (tbF (binF eqD (varF 1) (cstF (.str "swap")))) (asgG (tgAtt ["Machine"] "stack" (varF 0)) (binF addD (tupF [binF ixD (fldF ["Machine"] "stack" (varF 0)) (cstF (.int 1)), binF ixD (fldF ["Machine"] "stack" (varF 0)) (cstF (.int 0))]) (sliF sliD (fldF ["Machine"] "stack" (varF 0)) (some (cstF (.int 2))) none))) (ifS (tbF (binF eqD (varF 1) (cstF (.str "down")))) (asgG (tgAtt ["Machine"] "stack" (varF 0)) (binF addD (sliF sliD (fldF ["Machine"] "stack" (varF 0)) (some (cstF (.int 1))) none) (sliF sliD (fldF ["Machine"] "stack" (varF 0)) none (some (cstF (.int 1)))))) (ifS (tbF (binF eqD (varF 1) (cstF (.str "up")))) (asgG (tgAtt ["Machine"] "stack" (varF 0)) (binF addD (sliF sliD (fldF ["Machine"] "stack" (varF 0)) (some (unF negD (cstF (.int 1)))) none) (sliF sliD (fldF ["Machine"] "stack" (varF 0)) none (some (unF negD (cstF (.int 1))))))) (ifS (tbF (binF eqD (varF 1) (cstF (.str "last")))) (exprF (mtdF "come_in" [("Machine", fun xs => F_Machine_come_in (xs ++ []))] (varF 0) [fldF ["Machine"] "kept" (varF 0)])) (ifS (tbF (binF eqD (varF 1) (cstF (.str "put")))) (asgG (tgAtt ["Machine"] "store" (varF 0)) (binF ixD (fldF ["Machine"] "stack" (varF 0)) (cstF (.int 0)))) (exprF (mtdF "come_in" [("Machine", fun xs => F_Machine_come_in (xs ++ []))] (varF 0) [fldF ["Machine"] "store" (varF 0)]))))))
noncomputable abbrev F_Machine_press_mover : List D → M D := defF 2 B_Machine_press_mover
noncomputable def B_Machine_press (tc tp tm tt : Tab) : SM := seqS (ifS (tbF (binF inD (varF 1) (cstF (.str "0123456789")))) (seqS (exprF (mtdF "press_digit" [("Machine", fun xs => F_Machine_press_digit tc tp tt (xs ++ []))] (varF 0) [calF intD [varF 1]])) (retN)) (nxF)) (seqS (ifS (tbF (binF eqD (varF 1) (cstF (.str "enter")))) (seqS (asgG (tgAtt ["Machine"] "stack" (varF 0)) (binF addD (sliF sliD (fldF ["Machine"] "stack" (varF 0)) none (some (cstF (.int 1)))) (sliF sliD (fldF ["Machine"] "stack" (varF 0)) none (some (unF negD (cstF (.int 1))))))) (seqS (asgG (tgAtt ["Machine"] "way" (varF 0)) (cstF (.str "held"))) (retN))) (nxF)) (seqS (ifS (tbF (binF eqD (varF 1) (cstF (.str "clear")))) (seqS (asgG (tgAtt ["Machine"] "stack" (varF 0)) (binF addD (tupF [mtdF "constant" tc (fldF ["Machine"] "arithmetic" (varF 0)) [cstF (.int 0)]]) (sliF sliD (fldF ["Machine"] "stack" (varF 0)) (some (cstF (.int 1))) none))) (seqS (asgG (tgAtt ["Machine"] "way" (varF 0)) (cstF (.str "held"))) (retN))) (nxF)) (seqS (ifS (tbF (binF inD (varF 1) (prpF [("Box", F_Box_keeps)] (fldF ["Machine"] "rules" (varF 0))))) (asgG (tgAtt ["Machine"] "kept" (varF 0)) (binF ixD (fldF ["Machine"] "stack" (varF 0)) (cstF (.int 0)))) (nxF)) (seqS (ifS (tbF (binF inD (varF 1) (cstF (.str "abcd")))) (exprF (mtdF "come_in" [("Machine", fun xs => F_Machine_come_in (xs ++ []))] (varF 0) [binF ixD (fldF ["Machine"] "keyed" (varF 0)) (metF "str" sixD (cstF (.str "abcd")) [varF 1])])) (ifS (tbF (binF inD (varF 1) (tupF [cstF (.str "+"), cstF (.str "-"), cstF (.str "*")]))) (exprF (mtdF "press_sign" [("Machine", fun xs => F_Machine_press_sign tc tp tm tt (xs ++ []))] (varF 0) [varF 1])) (ifS (tbF (binF eqD (varF 1) (cstF (.str "neg")))) (asgG (tgAtt ["Machine"] "stack" (varF 0)) (binF addD (tupF [mtdF "minus" tm (fldF ["Machine"] "arithmetic" (varF 0)) [mtdF "constant" tc (fldF ["Machine"] "arithmetic" (varF 0)) [cstF (.int 0)], binF ixD (fldF ["Machine"] "stack" (varF 0)) (cstF (.int 0))]]) (sliF sliD (fldF ["Machine"] "stack" (varF 0)) (some (cstF (.int 1))) none))) (exprF (mtdF "press_mover" [("Machine", fun xs => F_Machine_press_mover (xs ++ []))] (varF 0) [varF 1]))))) (asgG (tgAtt ["Machine"] "way" (varF 0)) (cstF (.str "free")))))))
noncomputable abbrev F_Machine_press (tc tp tm tt : Tab) : List D → M D := defF 2 (B_Machine_press tc tp tm tt)
noncomputable def B_Machine_parts : SM := retF (tupF [fldF ["Machine"] "stack" (varF 0), fldF ["Machine"] "kept" (varF 0), fldF ["Machine"] "store" (varF 0), fldF ["Machine"] "way" (varF 0)])
noncomputable abbrev F_Machine_parts : List D → M D := defF 1 B_Machine_parts
def mf (A : Ari) (b : Nat) (s : Gt A.N) (l : D) (a : Nat) : List (Str × D) := [("rules", .ob b), ("stack", .tup (s.lv.map A.num)), ("kept", A.num s.kp), ("store", A.num s.mem), ("way", .str s.way), ("keyed", l), ("arithmetic", .ob a)]
/-- the keeps of a box: a tuple made by the law, or the class's own -/
def kD (ks : List Str) : Bool → D
  | false => .tup (ks.map .str)
  | true => .ctu (ks.map .str)
def bf (size : Int) (deep : Str) (ks : List Str) (cb : Bool := false) : List (Str × D) := [("_rules", .tup [.int size, .str deep, kD ks cb])]
section
variable {A : Ari} {b a : Nat} {s : Gt A.N} {l : D} {x : List A.N} {i : A.N} {w : Str} {size : Int} {deep : Str} {ks : List Str}
end
/-- the objects that a machine looks at -/
structure Mch (A : Ari) (S0 : Store) (o b a : Nat) (size : Int) (deep : Str) (ks : List Str) (cb : Bool := false) : Prop where
  lt : o < S0.length
  nb : o ≠ b
  na : o ≠ a
  box : S0[b]? = some (some (.ins "Box" (bf size deep ks cb)))
  ar : S0[a]? = some (some (.ins A.cl A.fl))
  sub : ∀ k ∈ ks, k ∈ KEEPS
local macro_rules | `(tactic| and_intros) => `(tactic| repeat (first | with_reducible refine StpA.go ?_ | with_reducible refine StpB.go ?_ | ((with_reducible refine Ok.var ?_); refine ⟨_, rfl, ?_⟩) | ((with_reducible refine Fr.go ?_); intro fr_ e_; simp only [List.set_cons_zero, List.set_cons_succ, setAll, wipeF] at e_; subst e_) | ((with_reducible refine Ok.fldM ?_ ?_ ?_); (assumption); (exact c_M); (first | refine ⟨_, g_stack, ?_⟩ | refine ⟨_, g_kept, ?_⟩ | refine ⟨_, g_store, ?_⟩ | refine ⟨_, g_way, ?_⟩ | refine ⟨_, g_keyed, ?_⟩ | refine ⟨_, g_arith, ?_⟩ | refine ⟨_, g_rules, ?_⟩)) | ((with_reducible refine Ok.setM ?_ ?_ ?_ ?_); (assumption); (exact c_M); (exact mf_len); (first | refine ⟨_, p_stack, ?_⟩ | refine ⟨_, p_kept, ?_⟩ | refine ⟨_, p_store, ?_⟩ | refine ⟨_, p_way, ?_⟩)) | with_reducible refine Ok.sl_d1 ?_ | with_reducible refine Ok.sl_d2 ?_ | with_reducible refine Ok.sl_t1 ?_ | with_reducible refine Ok.sl_dl ?_ | with_reducible refine Ok.sl_l1 ?_ | ((with_reducible refine Ok.gd_1m ?_ ?_); (simp; omega)) | ((with_reducible refine Ok.gd_2m ?_ ?_); (simp; omega)) | ((with_reducible refine Ok.gd_m1 ?_ ?_); (simp; omega)) | ((with_reducible refine Ok.gd_mm ?_ ?_); (simp; omega)) | ((with_reducible refine Ok.gx0 ?_ ?_); (omega)) | ((with_reducible refine Ok.gx1 ?_ ?_); (omega)) | ((with_reducible refine Ok.gx9 ?_ ?_); (omega)) | with_reducible refine Ok.sli_tail ?_ | ((with_reducible refine OkS.aug ?_); refine ⟨_, rfl, ?_⟩) | ((with_reducible refine Ok.ix_t ?_); refine ⟨_, rfl, ?_⟩) | ((with_reducible refine Ok.ix_l ?_); refine ⟨_, rfl, ?_⟩) | ((with_reducible refine Ok.tgT ?_ ?_); exact rfl) | with_reducible refine Ok.sli_t ?_ | with_reducible refine Ok.sli_l ?_ | ((with_reducible refine Ok.mod_ii ?_ ?_); (first | decide | (simp; done) | (simp; omega))) | ((with_reducible refine Ok.add_tt ?_ ?_); (first | decide | (simp; done) | (simp; omega))) | ((with_reducible refine Ok.add_ll ?_ ?_); (first | decide | (simp; done) | (simp; omega))) | ((with_reducible refine Ok.add_ss ?_ ?_); (first | decide | (simp; done) | (simp; omega))) | ((with_reducible refine Ok.rng1 ?_ ?_); (first | decide | omega | (simp; omega))) | ((with_reducible refine Br.dt ?_ ?_); (first | assumption | exact rfl | omega | decide +kernel)) | ((with_reducible refine Br.df ?_ ?_); (first | assumption | omega | decide +kernel)) | ((with_reducible refine Br.tt ?_ ?_); (first | assumption | decide +kernel)) | ((with_reducible refine Br.ff ?_ ?_); (first | assumption | decide +kernel)) | ((with_reducible refine Ok.isi_tup (p := true) ?_ ?_); decide +kernel) | ((with_reducible refine Ok.isi_tup (p := false) ?_ ?_); decide +kernel) | ((with_reducible refine Ok.isi_int (p := true) ?_ ?_); decide +kernel) | ((with_reducible refine Ok.isi_int (p := false) ?_ ?_); decide +kernel) | ((with_reducible refine Ok.isi_str (p := true) ?_ ?_); decide +kernel) | ((with_reducible refine Ok.isi_str (p := false) ?_ ?_); decide +kernel) | ((with_reducible refine Ok.isi_lst (p := true) ?_ ?_); decide +kernel) | ((with_reducible refine Ok.isi_lst (p := false) ?_ ?_); decide +kernel) | ((with_reducible refine Ok.isi_bl (p := true) ?_ ?_); decide +kernel) | ((with_reducible refine Ok.isi_bl (p := false) ?_ ?_); decide +kernel) | ((with_reducible refine Ok.isi_non (p := true) ?_ ?_); decide +kernel) | ((with_reducible refine Ok.isi_non (p := false) ?_ ?_); decide +kernel) | ((with_reducible refine Ok.isi_ctu (p := true) ?_ ?_); decide +kernel) | ((with_reducible refine Ok.isi_ctu (p := false) ?_ ?_); decide +kernel) | ((with_reducible refine Ok.isi_emp (p := true) ?_ ?_); decide +kernel) | ((with_reducible refine Ok.isi_emp (p := false) ?_ ?_); decide +kernel)))
section
variable {A : Ari} {P P2 : A.N → Prop} {S0 : Store} {o b a : Nat} {size : Int} {deep : Str} {ks : List Str} {s : Gt A.N} {l : D} {i : A.N} {fr : DL.Frame} {Q : D → Store → Prop} {fs : List (DL.Frame → M D)}
local macro_rules | `(tactic| and_intros) => `(tactic| repeat (first | with_reducible refine StpA.go ?_ | with_reducible refine StpB.go ?_ | ((with_reducible refine Ok.var ?_); refine ⟨_, rfl, ?_⟩) | ((with_reducible refine Fr.go ?_); intro fr_ e_; simp only [List.set_cons_zero, List.set_cons_succ, setAll, wipeF] at e_; subst e_) | ((with_reducible refine Ok.fldM ?_ ?_ ?_); (assumption); (exact c_M); (first | refine ⟨_, g_stack, ?_⟩ | refine ⟨_, g_kept, ?_⟩ | refine ⟨_, g_store, ?_⟩ | refine ⟨_, g_way, ?_⟩ | refine ⟨_, g_keyed, ?_⟩ | refine ⟨_, g_arith, ?_⟩ | refine ⟨_, g_rules, ?_⟩)) | ((with_reducible refine Ok.setM ?_ ?_ ?_ ?_); (assumption); (exact c_M); (exact mf_len); (first | refine ⟨_, p_stack, ?_⟩ | refine ⟨_, p_kept, ?_⟩ | refine ⟨_, p_store, ?_⟩ | refine ⟨_, p_way, ?_⟩)) | with_reducible refine Ok.sl_d1 ?_ | with_reducible refine Ok.sl_d2 ?_ | with_reducible refine Ok.sl_t1 ?_ | with_reducible refine Ok.sl_dl ?_ | with_reducible refine Ok.sl_l1 ?_ | ((with_reducible refine Ok.gd_1m ?_ ?_); (simp; omega)) | ((with_reducible refine Ok.gd_2m ?_ ?_); (simp; omega)) | ((with_reducible refine Ok.gd_m1 ?_ ?_); (simp; omega)) | ((with_reducible refine Ok.gd_mm ?_ ?_); (simp; omega)) | ((with_reducible refine Ok.gx0 ?_ ?_); (omega)) | ((with_reducible refine Ok.gx1 ?_ ?_); (omega)) | ((with_reducible refine Ok.gx9 ?_ ?_); (omega)) | with_reducible refine Ok.mtd1 ?_ | with_reducible refine Ok.prp1 ?_ | refine ⟨_, _, rfl, List.getElem?_set_self (by assumption), rfl, ?_⟩ | with_reducible refine Ok.sli_tail ?_ | ((with_reducible refine OkS.aug ?_); refine ⟨_, rfl, ?_⟩) | ((with_reducible refine Ok.ix_t ?_); refine ⟨_, rfl, ?_⟩) | ((with_reducible refine Ok.ix_l ?_); refine ⟨_, rfl, ?_⟩) | ((with_reducible refine Ok.tgT ?_ ?_); exact rfl) | with_reducible refine Ok.sli_t ?_ | with_reducible refine Ok.sli_l ?_ | ((with_reducible refine Ok.mod_ii ?_ ?_); (first | decide | (simp; done) | (simp; omega))) | ((with_reducible refine Ok.add_tt ?_ ?_); (first | decide | (simp; done) | (simp; omega))) | ((with_reducible refine Ok.add_ll ?_ ?_); (first | decide | (simp; done) | (simp; omega))) | ((with_reducible refine Ok.add_ss ?_ ?_); (first | decide | (simp; done) | (simp; omega))) | ((with_reducible refine Ok.rng1 ?_ ?_); (first | decide | omega | (simp; omega))) | ((with_reducible refine Br.dt ?_ ?_); (first | assumption | exact rfl | omega | decide +kernel)) | ((with_reducible refine Br.df ?_ ?_); (first | assumption | omega | decide +kernel)) | ((with_reducible refine Br.tt ?_ ?_); (first | assumption | decide +kernel)) | ((with_reducible refine Br.ff ?_ ?_); (first | assumption | decide +kernel)) | ((with_reducible refine Ok.isi_tup (p := true) ?_ ?_); decide +kernel) | ((with_reducible refine Ok.isi_tup (p := false) ?_ ?_); decide +kernel) | ((with_reducible refine Ok.isi_int (p := true) ?_ ?_); decide +kernel) | ((with_reducible refine Ok.isi_int (p := false) ?_ ?_); decide +kernel) | ((with_reducible refine Ok.isi_str (p := true) ?_ ?_); decide +kernel) | ((with_reducible refine Ok.isi_str (p := false) ?_ ?_); decide +kernel) | ((with_reducible refine Ok.isi_lst (p := true) ?_ ?_); decide +kernel) | ((with_reducible refine Ok.isi_lst (p := false) ?_ ?_); decide +kernel) | ((with_reducible refine Ok.isi_bl (p := true) ?_ ?_); decide +kernel) | ((with_reducible refine Ok.isi_bl (p := false) ?_ ?_); decide +kernel) | ((with_reducible refine Ok.isi_non (p := true) ?_ ?_); decide +kernel) | ((with_reducible refine Ok.isi_non (p := false) ?_ ?_); decide +kernel) | ((with_reducible refine Ok.isi_ctu (p := true) ?_ ?_); decide +kernel) | ((with_reducible refine Ok.isi_ctu (p := false) ?_ ?_); decide +kernel) | ((with_reducible refine Ok.isi_emp (p := true) ?_ ?_); decide +kernel) | ((with_reducible refine Ok.isi_emp (p := false) ?_ ?_); decide +kernel)))
/-- what a step of a machine leaves behind -/
def Post (A : Ari) (S0 : Store) (o b a : Nat) (l : D) (s : Gt A.N) (d : D) (S' : Store) : Prop := d = .non ∧ ∃ T, Ext S0 T ∧ S' = T.set o (some (.ins "Machine" (mf A b s l a)))
end
end DL.Lg
namespace DL.Lg
open PySem PySem.Spec PyProof.Rows L2 DL
local macro_rules | `(tactic| and_intros) => `(tactic| repeat (first | with_reducible refine StpA.go ?_ | with_reducible refine StpB.go ?_ | ((with_reducible refine Ok.var ?_); refine ⟨_, rfl, ?_⟩) | ((with_reducible refine Fr.go ?_); intro fr_ e_; simp only [List.set_cons_zero, List.set_cons_succ, setAll, wipeF] at e_; subst e_) | ((with_reducible refine Ok.fldM ?_ ?_ ?_); (assumption); (exact c_M); (first | refine ⟨_, g_stack, ?_⟩ | refine ⟨_, g_kept, ?_⟩ | refine ⟨_, g_store, ?_⟩ | refine ⟨_, g_way, ?_⟩ | refine ⟨_, g_keyed, ?_⟩ | refine ⟨_, g_arith, ?_⟩ | refine ⟨_, g_rules, ?_⟩)) | ((with_reducible refine Ok.setM ?_ ?_ ?_ ?_); (assumption); (exact c_M); (exact mf_len); (first | refine ⟨_, p_stack, ?_⟩ | refine ⟨_, p_kept, ?_⟩ | refine ⟨_, p_store, ?_⟩ | refine ⟨_, p_way, ?_⟩)) | with_reducible refine Ok.sl_d1 ?_ | with_reducible refine Ok.sl_d2 ?_ | with_reducible refine Ok.sl_t1 ?_ | with_reducible refine Ok.sl_dl ?_ | with_reducible refine Ok.sl_l1 ?_ | ((with_reducible refine Ok.gd_1m ?_ ?_); (simp; omega)) | ((with_reducible refine Ok.gd_2m ?_ ?_); (simp; omega)) | ((with_reducible refine Ok.gd_m1 ?_ ?_); (simp; omega)) | ((with_reducible refine Ok.gd_mm ?_ ?_); (simp; omega)) | ((with_reducible refine Ok.gx0 ?_ ?_); (omega)) | ((with_reducible refine Ok.gx1 ?_ ?_); (omega)) | ((with_reducible refine Ok.gx9 ?_ ?_); (omega)) | with_reducible refine Ok.mtd1 ?_ | with_reducible refine Ok.prp1 ?_ | refine ⟨_, _, rfl, List.getElem?_set_self (by assumption), rfl, ?_⟩ | with_reducible refine Ok.sli_tail ?_ | ((with_reducible refine OkS.aug ?_); refine ⟨_, rfl, ?_⟩) | ((with_reducible refine Ok.ix_t ?_); refine ⟨_, rfl, ?_⟩) | ((with_reducible refine Ok.ix_l ?_); refine ⟨_, rfl, ?_⟩) | ((with_reducible refine Ok.tgT ?_ ?_); exact rfl) | with_reducible refine Ok.sli_t ?_ | with_reducible refine Ok.sli_l ?_ | ((with_reducible refine Ok.mod_ii ?_ ?_); (first | decide | (simp; done) | (simp; omega))) | ((with_reducible refine Ok.add_tt ?_ ?_); (first | decide | (simp; done) | (simp; omega))) | ((with_reducible refine Ok.add_ll ?_ ?_); (first | decide | (simp; done) | (simp; omega))) | ((with_reducible refine Ok.add_ss ?_ ?_); (first | decide | (simp; done) | (simp; omega))) | ((with_reducible refine Ok.rng1 ?_ ?_); (first | decide | omega | (simp; omega))) | ((with_reducible refine Br.dt ?_ ?_); (first | assumption | exact rfl | omega | decide +kernel)) | ((with_reducible refine Br.df ?_ ?_); (first | assumption | omega | decide +kernel)) | ((with_reducible refine Br.tt ?_ ?_); (first | assumption | decide +kernel)) | ((with_reducible refine Br.ff ?_ ?_); (first | assumption | decide +kernel)) | ((with_reducible refine Ok.isi_tup (p := true) ?_ ?_); decide +kernel) | ((with_reducible refine Ok.isi_tup (p := false) ?_ ?_); decide +kernel) | ((with_reducible refine Ok.isi_int (p := true) ?_ ?_); decide +kernel) | ((with_reducible refine Ok.isi_int (p := false) ?_ ?_); decide +kernel) | ((with_reducible refine Ok.isi_str (p := true) ?_ ?_); decide +kernel) | ((with_reducible refine Ok.isi_str (p := false) ?_ ?_); decide +kernel) | ((with_reducible refine Ok.isi_lst (p := true) ?_ ?_); decide +kernel) | ((with_reducible refine Ok.isi_lst (p := false) ?_ ?_); decide +kernel) | ((with_reducible refine Ok.isi_bl (p := true) ?_ ?_); decide +kernel) | ((with_reducible refine Ok.isi_bl (p := false) ?_ ?_); decide +kernel) | ((with_reducible refine Ok.isi_non (p := true) ?_ ?_); decide +kernel) | ((with_reducible refine Ok.isi_non (p := false) ?_ ?_); decide +kernel) | ((with_reducible refine Ok.isi_ctu (p := true) ?_ ?_); decide +kernel) | ((with_reducible refine Ok.isi_ctu (p := false) ?_ ?_); decide +kernel) | ((with_reducible refine Ok.isi_emp (p := true) ?_ ?_); decide +kernel) | ((with_reducible refine Ok.isi_emp (p := false) ?_ ?_); decide +kernel)))
section
variable {A : Ari} {P P2 : A.N → Prop} {S0 : Store} {o b a : Nat} {size : Int} {deep : Str} {ks : List Str} {s : Gt A.N} {l : D} {i : A.N} {fr : DL.Frame} {Q : D → Store → Prop} {fs : List (DL.Frame → M D)} {x : List A.N}
local macro_rules | `(tactic| and_intros) => `(tactic| repeat (first | with_reducible refine StpA.go ?_ | with_reducible refine StpB.go ?_ | ((with_reducible refine Ok.var ?_); refine ⟨_, rfl, ?_⟩) | ((with_reducible refine Fr.go ?_); intro fr_ e_; simp only [List.set_cons_zero, List.set_cons_succ, setAll, wipeF] at e_; subst e_) | ((with_reducible refine Ok.fldM ?_ ?_ ?_); (assumption); (exact c_M); (first | refine ⟨_, g_stack, ?_⟩ | refine ⟨_, g_kept, ?_⟩ | refine ⟨_, g_store, ?_⟩ | refine ⟨_, g_way, ?_⟩ | refine ⟨_, g_keyed, ?_⟩ | refine ⟨_, g_arith, ?_⟩ | refine ⟨_, g_rules, ?_⟩)) | ((with_reducible refine Ok.setM ?_ ?_ ?_ ?_); (assumption); (exact c_M); (exact mf_len); (first | refine ⟨_, p_stack, ?_⟩ | refine ⟨_, p_kept, ?_⟩ | refine ⟨_, p_store, ?_⟩ | refine ⟨_, p_way, ?_⟩)) | with_reducible refine Ok.sl_d1 ?_ | with_reducible refine Ok.sl_d2 ?_ | with_reducible refine Ok.sl_t1 ?_ | with_reducible refine Ok.sl_dl ?_ | with_reducible refine Ok.sl_l1 ?_ | ((with_reducible refine Ok.gd_1m ?_ ?_); (simp; omega)) | ((with_reducible refine Ok.gd_2m ?_ ?_); (simp; omega)) | ((with_reducible refine Ok.gd_m1 ?_ ?_); (simp; omega)) | ((with_reducible refine Ok.gd_mm ?_ ?_); (simp; omega)) | ((with_reducible refine Ok.gx0 ?_ ?_); (omega)) | ((with_reducible refine Ok.gx1 ?_ ?_); (omega)) | ((with_reducible refine Ok.gx9 ?_ ?_); (omega)) | with_reducible refine Ok.mtd1 ?_ | with_reducible refine Ok.prp1 ?_ | refine ⟨_, _, rfl, List.getElem?_set_self (by assumption), rfl, ?_⟩ | refine ⟨_, _, rfl, (List.getElem?_set_ne (by assumption)).trans (by assumption), ?_⟩ | with_reducible refine deepest_ ((List.getElem?_set_ne (by assumption)).trans (by assumption)) ?_ | with_reducible refine keeps_ ((List.getElem?_set_ne (by assumption)).trans (by assumption)) ?_ | with_reducible refine Ok.sli_tail ?_ | ((with_reducible refine OkS.aug ?_); refine ⟨_, rfl, ?_⟩) | ((with_reducible refine Ok.ix_t ?_); refine ⟨_, rfl, ?_⟩) | ((with_reducible refine Ok.ix_l ?_); refine ⟨_, rfl, ?_⟩) | ((with_reducible refine Ok.tgT ?_ ?_); exact rfl) | with_reducible refine Ok.sli_t ?_ | with_reducible refine Ok.sli_l ?_ | ((with_reducible refine Ok.mod_ii ?_ ?_); (first | decide | (simp; done) | (simp; omega))) | ((with_reducible refine Ok.add_tt ?_ ?_); (first | decide | (simp; done) | (simp; omega))) | ((with_reducible refine Ok.add_ll ?_ ?_); (first | decide | (simp; done) | (simp; omega))) | ((with_reducible refine Ok.add_ss ?_ ?_); (first | decide | (simp; done) | (simp; omega))) | ((with_reducible refine Ok.rng1 ?_ ?_); (first | decide | omega | (simp; omega))) | ((with_reducible refine Br.dt ?_ ?_); (first | assumption | exact rfl | omega | decide +kernel)) | ((with_reducible refine Br.df ?_ ?_); (first | assumption | omega | decide +kernel)) | ((with_reducible refine Br.tt ?_ ?_); (first | assumption | decide +kernel)) | ((with_reducible refine Br.ff ?_ ?_); (first | assumption | decide +kernel)) | ((with_reducible refine Ok.isi_tup (p := true) ?_ ?_); decide +kernel) | ((with_reducible refine Ok.isi_tup (p := false) ?_ ?_); decide +kernel) | ((with_reducible refine Ok.isi_int (p := true) ?_ ?_); decide +kernel) | ((with_reducible refine Ok.isi_int (p := false) ?_ ?_); decide +kernel) | ((with_reducible refine Ok.isi_str (p := true) ?_ ?_); decide +kernel) | ((with_reducible refine Ok.isi_str (p := false) ?_ ?_); decide +kernel) | ((with_reducible refine Ok.isi_lst (p := true) ?_ ?_); decide +kernel) | ((with_reducible refine Ok.isi_lst (p := false) ?_ ?_); decide +kernel) | ((with_reducible refine Ok.isi_bl (p := true) ?_ ?_); decide +kernel) | ((with_reducible refine Ok.isi_bl (p := false) ?_ ?_); decide +kernel) | ((with_reducible refine Ok.isi_non (p := true) ?_ ?_); decide +kernel) | ((with_reducible refine Ok.isi_non (p := false) ?_ ?_); decide +kernel) | ((with_reducible refine Ok.isi_ctu (p := true) ?_ ?_); decide +kernel) | ((with_reducible refine Ok.isi_ctu (p := false) ?_ ?_); decide +kernel) | ((with_reducible refine Ok.isi_emp (p := true) ?_ ?_); decide +kernel) | ((with_reducible refine Ok.isi_emp (p := false) ?_ ?_); decide +kernel)))
/-- what the letters stand for -/
def Lets (A : Ari) (l : D) (ls : List A.N) : Prop := ∀ (i : Fin 4) (S : Store), ixD l (.int ((i.val : Nat) : Int)) S = .ok (A.num (ls.getD i.val (A.cst 0))) S
end
end DL.Lg
namespace DL.Lg
open PySem PySem.Spec PyProof.Rows L2 DL
noncomputable def E_is_wide_1 : DL.Frame → M D := binF gtD (calF lenD [varF 2]) (cstF (.int 200))
noncomputable def B_is_wide : SM := seqS (asgF 1 (binF addD (fldF ["Machine"] "stack" (varF 0)) (tupF [fldF ["Machine"] "kept" (varF 0), fldF ["Machine"] "store" (varF 0)]))) (retF (calF anyD [cmpD [2] (itF (varF 1)) (tgName 2) (yesF) (E_is_wide_1)]))
noncomputable abbrev F_is_wide : List D → M D := defF 3 B_is_wide
noncomputable def L_effect_1 (tc tp tm tt : Tab) : SM := seqS (exprF (mtdF "press" [("Machine", fun xs => F_Machine_press tc tp tm tt (xs ++ []))] (varF 3) [varF 4])) (ifS (tstF (calF (fun xs => F_is_wide (xs ++ [])) [varF 3])) (badS) (nxF))
noncomputable def L_run_1 (tc tp tm tt : Tab) : SM := exprF (mtdF "press" [("Machine", fun xs => F_Machine_press tc tp tm tt (xs ++ []))] (varF 4) [varF 5])
local macro_rules | `(tactic| and_intros) => `(tactic| repeat (first | with_reducible refine StpA.go ?_ | with_reducible refine StpB.go ?_ | ((with_reducible refine Ok.var ?_); refine ⟨_, rfl, ?_⟩) | ((with_reducible refine Fr.go ?_); intro fr_ e_; simp only [List.set_cons_zero, List.set_cons_succ, setAll, wipeF] at e_; subst e_) | ((with_reducible refine Ok.fldM ?_ ?_ ?_); (assumption); (exact c_M); (first | refine ⟨_, g_stack, ?_⟩ | refine ⟨_, g_kept, ?_⟩ | refine ⟨_, g_store, ?_⟩ | refine ⟨_, g_way, ?_⟩ | refine ⟨_, g_keyed, ?_⟩ | refine ⟨_, g_arith, ?_⟩ | refine ⟨_, g_rules, ?_⟩)) | ((with_reducible refine Ok.setM ?_ ?_ ?_ ?_); (assumption); (exact c_M); (exact mf_len); (first | refine ⟨_, p_stack, ?_⟩ | refine ⟨_, p_kept, ?_⟩ | refine ⟨_, p_store, ?_⟩ | refine ⟨_, p_way, ?_⟩)) | with_reducible refine Ok.sl_d1 ?_ | with_reducible refine Ok.sl_d2 ?_ | with_reducible refine Ok.sl_t1 ?_ | with_reducible refine Ok.sl_dl ?_ | with_reducible refine Ok.sl_l1 ?_ | ((with_reducible refine Ok.gd_1m ?_ ?_); (simp; omega)) | ((with_reducible refine Ok.gd_2m ?_ ?_); (simp; omega)) | ((with_reducible refine Ok.gd_m1 ?_ ?_); (simp; omega)) | ((with_reducible refine Ok.gd_mm ?_ ?_); (simp; omega)) | ((with_reducible refine Ok.gx0 ?_ ?_); (omega)) | ((with_reducible refine Ok.gx1 ?_ ?_); (omega)) | ((with_reducible refine Ok.gx9 ?_ ?_); (omega)) | with_reducible refine Ok.mtd1 ?_ | with_reducible refine Ok.prp1 ?_ | refine ⟨_, _, rfl, List.getElem?_set_self (by assumption), rfl, ?_⟩ | ((with_reducible refine Ok.setM ?_ ?_ ?_ ?_); (assumption); (exact c_M); (focus (simp; done)); (first | refine ⟨_, i_rules, ?_⟩ | refine ⟨_, i_stack, ?_⟩ | refine ⟨_, i_kept, ?_⟩ | refine ⟨_, i_store, ?_⟩ | refine ⟨_, i_way, ?_⟩ | refine ⟨_, i_keyed, ?_⟩ | refine ⟨_, i_arithmetic, ?_⟩)) | ((with_reducible refine Ok.tgT ?_ ?_); (exact rfl)) | with_reducible refine Ok.sli_tail ?_ | ((with_reducible refine OkS.aug ?_); refine ⟨_, rfl, ?_⟩) | ((with_reducible refine Ok.ix_t ?_); refine ⟨_, rfl, ?_⟩) | ((with_reducible refine Ok.ix_l ?_); refine ⟨_, rfl, ?_⟩) | ((with_reducible refine Ok.tgT ?_ ?_); exact rfl) | with_reducible refine Ok.sli_t ?_ | with_reducible refine Ok.sli_l ?_ | ((with_reducible refine Ok.mod_ii ?_ ?_); (first | decide | (simp; done) | (simp; omega))) | ((with_reducible refine Ok.add_tt ?_ ?_); (first | decide | (simp; done) | (simp; omega))) | ((with_reducible refine Ok.add_ll ?_ ?_); (first | decide | (simp; done) | (simp; omega))) | ((with_reducible refine Ok.add_ss ?_ ?_); (first | decide | (simp; done) | (simp; omega))) | ((with_reducible refine Ok.rng1 ?_ ?_); (first | decide | omega | (simp; omega))) | ((with_reducible refine Br.dt ?_ ?_); (first | assumption | exact rfl | omega | decide +kernel)) | ((with_reducible refine Br.df ?_ ?_); (first | assumption | omega | decide +kernel)) | ((with_reducible refine Br.tt ?_ ?_); (first | assumption | decide +kernel)) | ((with_reducible refine Br.ff ?_ ?_); (first | assumption | decide +kernel)) | ((with_reducible refine Ok.isi_tup (p := true) ?_ ?_); decide +kernel) | ((with_reducible refine Ok.isi_tup (p := false) ?_ ?_); decide +kernel) | ((with_reducible refine Ok.isi_int (p := true) ?_ ?_); decide +kernel) | ((with_reducible refine Ok.isi_int (p := false) ?_ ?_); decide +kernel) | ((with_reducible refine Ok.isi_str (p := true) ?_ ?_); decide +kernel) | ((with_reducible refine Ok.isi_str (p := false) ?_ ?_); decide +kernel) | ((with_reducible refine Ok.isi_lst (p := true) ?_ ?_); decide +kernel) | ((with_reducible refine Ok.isi_lst (p := false) ?_ ?_); decide +kernel) | ((with_reducible refine Ok.isi_bl (p := true) ?_ ?_); decide +kernel) | ((with_reducible refine Ok.isi_bl (p := false) ?_ ?_); decide +kernel) | ((with_reducible refine Ok.isi_non (p := true) ?_ ?_); decide +kernel) | ((with_reducible refine Ok.isi_non (p := false) ?_ ?_); decide +kernel) | ((with_reducible refine Ok.isi_ctu (p := true) ?_ ?_); decide +kernel) | ((with_reducible refine Ok.isi_ctu (p := false) ?_ ?_); decide +kernel) | ((with_reducible refine Ok.isi_emp (p := true) ?_ ?_); decide +kernel) | ((with_reducible refine Ok.isi_emp (p := false) ?_ ?_); decide +kernel)))
section
variable {A : Ari} {P P2 : A.N → Prop} {S0 S : Store} {o b a : Nat} {size : Int} {deep : Str} {ks : List Str} {s : Gt A.N} {l : D} {i : A.N} {fr : DL.Frame} {Q : D → Store → Prop} {ls : List A.N}
def stD (A : Ari) (s : Gt A.N) : D := .tup [.tup (s.lv.map A.num), A.num s.kp, A.num s.mem, .str s.way]
/-- the states that a row leads through -/
def runG (A : Ari) (deep : Str) (ks : List Str) (ls : List A.N) : List Ky → Gt A.N → Gt A.N
  | [], s => s
  | k :: r, s => runG A deep ks ls r (A.pressN deep ks ls k s)
/-- all of them have numbers that may be used on -/
def Way (A : Ari) (P : A.N → Prop) (deep : Str) (ks : List Str) (ls : List A.N) : List Ky → Gt A.N → Prop
  | [], s => s.All P
  | k :: r, s => s.All P ∧ Way A P deep ks ls r (A.pressN deep ks ls k s)
end
end DL.Lg
namespace DL.Lf
open PySem PySem.Spec PyProof.Rows L2 DL
noncomputable def B_many_unknowns : SM := retF (binF addD (prpF [("Box", Lg.F_Box_levels)] (varF 0)) (cstF (.int 6)))
noncomputable abbrev F_many_unknowns : List D → M D := defF 1 B_many_unknowns
noncomputable def B_Formal_init : SM := asgG (tgAtt ["Formal"] "many" (varF 0)) (varF 1)
noncomputable abbrev F_Formal_init : List D → M D := defF 2 B_Formal_init
noncomputable def E_first_machine_1 : DL.Frame → M D := calF (fun xs => Lb.F_unknown (xs ++ [])) [varF 2, varF 5]
noncomputable def B_first_machine : SM := seqS (asgF 2 (calF (fun xs => F_many_unknowns (xs ++ [])) [varF 0])) (seqS (asgF 3 (cmpD [5] (rngF rng1 [varF 2]) (tgName 5) (yesF) (E_first_machine_1))) (seqS (asgF 4 (tupF [calF tupleD [sliF sliD (varF 3) none (some (prpF [("Box", Lg.F_Box_levels)] (varF 0)))], binF ixD (varF 3) (prpF [("Box", Lg.F_Box_levels)] (varF 0)), binF ixD (varF 3) (binF addD (prpF [("Box", Lg.F_Box_levels)] (varF 0)) (cstF (.int 1))), varF 1])) (retF (makF "Machine" (fun xs => Lg.F_Machine_init (xs ++ [])) [varF 0, varF 4, calF tupleD [sliF sliD (varF 3) (some (binF subD (varF 2) (cstF (.int 4)))) none], makF "Formal" (fun xs => F_Formal_init (xs ++ [])) [varF 2]]))))
noncomputable abbrev F_first_machine : List D → M D := defF 6 B_first_machine
noncomputable def B_Formal_constant : SM := retF (calF (fun xs => Lb.F_constant (xs ++ [])) [fldF ["Formal"] "many" (varF 0), varF 1])
noncomputable abbrev F_Formal_constant : List D → M D := defF 2 B_Formal_constant
noncomputable def B_Formal_times : SM := retF (calF (fun xs => Lb.F_times (xs ++ [])) [varF 1, varF 2])
noncomputable abbrev F_Formal_times : List D → M D := defF 3 B_Formal_times
noncomputable def B_Formal_plus : SM := retF (calF (fun xs => Lb.F_plus (xs ++ [])) [varF 1, varF 2])
noncomputable abbrev F_Formal_plus : List D → M D := defF 3 B_Formal_plus
noncomputable def B_Formal_minus : SM := retF (calF (fun xs => Lb.F_minus (xs ++ [])) [varF 1, varF 2])
noncomputable abbrev F_Formal_minus : List D → M D := defF 3 B_Formal_minus
noncomputable def B_effect (tc tp tm tt : Tab) : SM := seqS (asgF 3 (calF (fun xs => F_first_machine (xs ++ [])) [varF 0, varF 1])) (seqS (forF (itF (varF 2)) (tgName 4) (Lg.L_effect_1 tc tp tm tt)) (retF (mtdF "parts" [("Machine", fun xs => Lg.F_Machine_parts (xs ++ []))] (varF 3) [])))
noncomputable abbrev F_effect (tc tp tm tt : Tab) : List D → M D := defF 5 (B_effect tc tp tm tt)
local macro_rules | `(tactic| and_intros) => `(tactic| repeat (first | with_reducible refine StpA.go ?_ | with_reducible refine StpB.go ?_ | ((with_reducible refine Ok.var ?_); refine ⟨_, rfl, ?_⟩) | ((with_reducible refine Fr.go ?_); intro fr_ e_; simp only [List.set_cons_zero, List.set_cons_succ, setAll, wipeF] at e_; subst e_) | ((with_reducible refine Ok.tgT ?_ ?_); (exact rfl)) | ((with_reducible refine Ok.tgQt ?_ ?_); (exact rfl)) | ((with_reducible refine Ok.tgQl ?_ ?_); (exact rfl)) | with_reducible refine Ok.tupP ?_ | with_reducible refine Ok.tupleP ?_ | ((with_reducible refine Ok.isi_ptu (p := true) ?_ ?_); decide +kernel) | ((with_reducible refine Ok.isi_ptu (p := false) ?_ ?_); decide +kernel) | with_reducible refine ItQ.ptu ?_ | with_reducible refine SrcQ.ptu ?_ | with_reducible refine Ok.len_p ?_ | with_reducible refine Ok.prp1 ?_ | refine ⟨_, _, rfl, (by assumption), ?_⟩ | with_reducible refine Lg.levels_ (by assumption) ?_ | with_reducible refine Ok.sli_tail ?_ | ((with_reducible refine OkS.aug ?_); refine ⟨_, rfl, ?_⟩) | ((with_reducible refine Ok.ix_t ?_); refine ⟨_, rfl, ?_⟩) | ((with_reducible refine Ok.ix_l ?_); refine ⟨_, rfl, ?_⟩) | ((with_reducible refine Ok.tgT ?_ ?_); exact rfl) | with_reducible refine Ok.sli_t ?_ | with_reducible refine Ok.sli_l ?_ | ((with_reducible refine Ok.mod_ii ?_ ?_); (first | decide | (simp; done) | (simp; omega))) | ((with_reducible refine Ok.add_tt ?_ ?_); (first | decide | (simp; done) | (simp; omega))) | ((with_reducible refine Ok.add_ll ?_ ?_); (first | decide | (simp; done) | (simp; omega))) | ((with_reducible refine Ok.add_ss ?_ ?_); (first | decide | (simp; done) | (simp; omega))) | ((with_reducible refine Ok.rng1 ?_ ?_); (first | decide | omega | (simp; omega))) | ((with_reducible refine Br.dt ?_ ?_); (first | assumption | exact rfl | omega | decide +kernel)) | ((with_reducible refine Br.df ?_ ?_); (first | assumption | omega | decide +kernel)) | ((with_reducible refine Br.tt ?_ ?_); (first | assumption | decide +kernel)) | ((with_reducible refine Br.ff ?_ ?_); (first | assumption | decide +kernel)) | ((with_reducible refine Ok.isi_tup (p := true) ?_ ?_); decide +kernel) | ((with_reducible refine Ok.isi_tup (p := false) ?_ ?_); decide +kernel) | ((with_reducible refine Ok.isi_int (p := true) ?_ ?_); decide +kernel) | ((with_reducible refine Ok.isi_int (p := false) ?_ ?_); decide +kernel) | ((with_reducible refine Ok.isi_str (p := true) ?_ ?_); decide +kernel) | ((with_reducible refine Ok.isi_str (p := false) ?_ ?_); decide +kernel) | ((with_reducible refine Ok.isi_lst (p := true) ?_ ?_); decide +kernel) | ((with_reducible refine Ok.isi_lst (p := false) ?_ ?_); decide +kernel) | ((with_reducible refine Ok.isi_bl (p := true) ?_ ?_); decide +kernel) | ((with_reducible refine Ok.isi_bl (p := false) ?_ ?_); decide +kernel) | ((with_reducible refine Ok.isi_non (p := true) ?_ ?_); decide +kernel) | ((with_reducible refine Ok.isi_non (p := false) ?_ ?_); decide +kernel) | ((with_reducible refine Ok.isi_ctu (p := true) ?_ ?_); decide +kernel) | ((with_reducible refine Ok.isi_ctu (p := false) ?_ ?_); decide +kernel) | ((with_reducible refine Ok.isi_emp (p := true) ?_ ?_); decide +kernel) | ((with_reducible refine Ok.isi_emp (p := false) ?_ ?_); decide +kernel)))
/-! ### the arithmetic of polynomials -/
def fA (w : Int) (m : Nat) (tc tp tm tt : Tab) : Ari := ⟨Pol, Pl.d, Pl.const m, Pl.plus, Pl.minus, Pl.times, "Formal", [("many", .int w)], tc, tp, tm, tt⟩
/-- a polynomial in m unknowns that is narrow, with factors of at most E bits -/
def PF (m E : Nat) (p : Pol) : Prop := Pl.Cn m p ∧ p.length ≤ 200 ∧ ∀ x ∈ p, x.2.natAbs < 2 ^ E
def PF2 (p : Pol) : Prop := Pl.Nd p ∧ p.length ≤ 400
section
variable {S : Store} {QD : D → Store → Prop} {QS : Fl → DL.Frame → Store → Prop} {m n E a b : Nat} {w size : Int} {tc tp tm tt : Tab} {deep : Str} {ks : List Str}
/-- the machine's first state, and its letters -/
def s0 (n : Nat) (mode : Str) : Gt Pol := ⟨(List.range n).map (Pl.unk (n + 6)), Pl.unk (n + 6) n, Pl.unk (n + 6) (n + 1), mode⟩
def l0 (n : Nat) : List Pol := (List.range' (n + 2) 4).map (Pl.unk (n + 6))
end
end DL.Lf
namespace DL.Gm
/-! ### a game of shapes: ascending rows of codes of products of marks (the powers of mark i are digit i of the code in base 1024) -/
noncomputable abbrev br {α : Type} (c : Bool) (x y : α) : α := @Bool.rec (fun _ => α) y x c
noncomputable section
def mgI (x : Nat) (k : List Nat → List Nat) (xa b : List Nat) : List Nat :=
  @List.rec Nat (fun _ => List Nat) xa (fun y b ih => br (Nat.ble y x) (br (Nat.beq x y) (x :: k b) (y :: ih)) (x :: k (y :: b))) b
/-- two shapes together -/
def mg (a : List Nat) : List Nat → List Nat :=
  @List.rec Nat (fun _ => List Nat → List Nat) (fun b => b) (fun x a ih => mgI x ih (x :: a)) a
def sh (z : Nat) (b : List Nat) : List Nat := @List.rec Nat (fun _ => List Nat) [] (fun y _ ih => Nat.add z y :: ih) b
/-- one shape times another -/
def ml (a b : List Nat) : List Nat := @List.rec Nat (fun _ => List Nat) [] (fun x _ ih => mg (sh x b) ih) a
def lnA (a : List Nat) : Nat → Nat := @List.rec Nat (fun _ => Nat → Nat) (fun n => n) (fun _ _ ih n => ih (Nat.add n 1)) a
def nilL (l : List Nat) : Bool := @List.rec Nat (fun _ => Bool) true (fun _ _ _ => false) l
def eqL (a : List Nat) : List Nat → Bool :=
  @List.rec Nat (fun _ => List Nat → Bool) nilL (fun x _ ih l => @List.rec Nat (fun _ => Bool) false (fun y b _ => br (Nat.beq x y) (ih b) false) l) a
inductive Sh where
  | mk (n : Nat) (l : List Nat)
def Sh.n (x : Sh) : Nat := @Sh.rec (fun _ => Nat) (fun n _ => n) x
def Sh.l (x : Sh) : List Nat := @Sh.rec (fun _ => List Nat) (fun _ l => l) x
def mem (n : Nat) (l : List Nat) (T : List Sh) : Bool :=
  @List.rec Sh (fun _ => Bool) false (fun x _ ih => br (Nat.beq n x.n) (br (eqL l x.l) true ih) ih) T
def mx (a b : Nat) : Nat := br (Nat.ble a b) b a
/-- sizes alone: acc at most n, what stands beneath at most t, what has been at most h -/
def U (r : Nat) : Nat → Nat → Nat → Bool :=
  @Nat.rec (fun _ => Nat → Nat → Nat → Bool) (fun n _ _ => Nat.ble n 200)
    (fun _ ih n t h => br (Nat.ble n 200) (br (ih (Nat.add n t) t (mx h (Nat.add n t))) (br (ih (Nat.mul n t) t (mx h (Nat.mul n t))) (ih (mx h n) (mx t n) (mx h n)) false) false) false) r
def pw (nv : Nat) : Nat := Nat.pow 1024 nv
def app (z : Nat) (a : List Nat) : List Nat := @List.rec Nat (fun _ => List Nat) [z] (fun x _ ih => x :: ih) a
def allS (f : Sh → Bool) (T : List Sh) : Bool := @List.rec Sh (fun _ => Bool) true (fun x _ ih => br (f x) ih false) T
def sub1 (u : Nat) : Nat := br (Nat.ble u 1) 0 u
def up1 (u : Nat) : Nat := br (Nat.beq u 0) 1 2
def m2 (n : Nat) (acc : List Nat) (x : Sh) : List Nat := br (Nat.ble n x.n) (ml acc x.l) (ml x.l acc)
def put (n : Nat) (acc : List Nat) (T : List Sh) : List Sh := br (Nat.ble n 1) T (br (mem n acc T) T (.mk n acc :: T))
abbrev Ask := Nat → Nat → Nat → Nat → Nat → Nat → List Nat → List Sh → List Sh → Bool
/-- one key: what may come of it has r keys left and is asked of k. u: 0, 1, 2 for what may stand beneath; f: marks that may still be added (two: on two levels) -/
def stp (two : Bool) (r : Nat) (k : Ask) : Ask := fun u f nv t h n acc T H =>
  br (Nat.ble n 200)
  (br (br (br two (Nat.beq f 0) false) true (br (U r (Nat.add n 1) t (mx h (Nat.add n 1))) true (k u (Nat.sub f 1) (Nat.add nv 1) t (mx h (Nat.add n 1)) (Nat.add n 1) (app (pw nv) acc) T (put n acc H))))
  (br (br (U r n t h) true (k u 2 (Nat.add nv 1) t h n (sh (pw nv) acc) T (put n acc H)))
  (br (br (Nat.beq u 0) true (allS (fun x =>
      br (br (U r (Nat.add n x.n) t (mx h (Nat.add n x.n))) true (k (sub1 u) f nv t (mx h (Nat.add n x.n)) (lnA (mg acc x.l) 0) (mg acc x.l) T (put n acc H)))
      (br (U r (Nat.mul n x.n) t (mx h (Nat.mul n x.n))) true (k (sub1 u) 2 nv t (mx h (lnA (m2 n acc x) 0)) (lnA (m2 n acc x) 0) (m2 n acc x) T (put n acc H))) false) T))
  (br (br (U r 1 (mx t n) h) true (k 2 2 (Nat.add nv 1) (mx t n) h 1 [pw nv] (put n acc T) (put n acc H)))
  (br (allS (fun x => br (U r x.n (mx t n) h) true (k (up1 u) 2 nv (mx t n) h x.n x.l (put n acc T) (put n acc H))) (put n acc H))
   (allS (fun x => br (mem x.n x.l (put n acc H)) true (br (U r x.n (mx t n) h) true (k (up1 u) 2 nv (mx t n) h x.n x.l (put n acc T) (put n acc H)))) T) false)
  false) false) false) false) false
def ex (two : Bool) (r : Nat) : Ask :=
  @Nat.rec (fun _ => Ask) (fun _ _ _ _ _ n _ _ _ => Nat.ble n 200) (fun r ih => stp two r ih) r
/-- d keys, then k with the r keys that are left behind them -/
def top (two : Bool) (r : Nat) (k : Ask) (d : Nat) : Ask := @Nat.rec (fun _ => Ask) k (fun d ih => stp two (Nat.add r d) ih) d
def hash (nv t h n : Nat) : Nat := Nat.mod (Nat.add (Nat.add (Nat.mul n 7) (Nat.mul t 5)) (Nat.add (Nat.mul h 3) nv)) 16
/-- those of one part of sixteen -/
def part (two : Bool) (r : Nat) (i : Nat) : Ask := fun u f nv t h n acc T H => br (Nat.beq (hash nv t h n) i) (ex two r u f nv t h n acc T H) true
def go (two : Bool) (i : Nat) : Bool := top two 5 (part two 5 i) 4 (br two 2 0) 2 1 1 1 1 [1] [] []
end
end DL.Gm
namespace DL.Gm
/-! ### what the game's search shows -/
/-! ### states of the game -/
structure St where
  u : Nat
  f : Nat
  nv : Nat
  acc : List Nat
  T : List Nat → Prop
  H : List Nat → Prop
def plusL (T : List Nat → Prop) (a : List Nat) : List Nat → Prop := fun x => T x ∨ x = a ∧ 2 ≤ a.length
noncomputable def mm (a x : List Nat) : List Nat := if a.length ≤ x.length then ml a x else ml x a
inductive Step (two : Bool) (s : St) : St → Prop
  | fresh (h : two = true → s.f ≠ 0) : Step two s ⟨s.u, s.f - 1, s.nv + 1, s.acc ++ [pw s.nv], s.T, plusL s.H s.acc⟩
  | dot : Step two s ⟨s.u, 2, s.nv + 1, s.acc.map (pw s.nv + ·), s.T, plusL s.H s.acc⟩
  | plus {x : List Nat} (hu : s.u ≠ 0) (hx : s.T x) : Step two s ⟨sub1 s.u, s.f, s.nv, mg s.acc x, s.T, plusL s.H s.acc⟩
  | times {x : List Nat} (hu : s.u ≠ 0) (hx : s.T x) : Step two s ⟨sub1 s.u, 2, s.nv, mm s.acc x, s.T, plusL s.H s.acc⟩
  | oz : Step two s ⟨2, 2, s.nv + 1, [pw s.nv], plusL s.T s.acc, plusL s.H s.acc⟩
  | od {x : List Nat} (hx : plusL s.T s.acc x ∨ plusL s.H s.acc x) : Step two s ⟨up1 s.u, 2, s.nv, x, plusL s.T s.acc, plusL s.H s.acc⟩
def Safe (two : Bool) : Nat → St → Prop
  | 0, s => s.acc.length ≤ 200
  | r + 1, s => s.acc.length ≤ 200 ∧ ∀ s', Step two s s' → Safe two r s'
/-- what is asked of the search, and the state that is meant -/
structure Fit (u f nv t h n : Nat) (acc : List Nat) (T H : List Sh) (s : St) : Prop where
  gn : acc.length = n
  gu : s.u = u
  gf : s.f = f
  gv : s.nv = nv
  ga : s.acc = acc
  n1 : 1 ≤ n
  t1 : 1 ≤ t
  gT : ∀ x, s.T x → ∃ y ∈ T, y.l = x
  Tn : ∀ y ∈ T, y.l.length = y.n ∧ y.n ≤ t
  gH : ∀ x, s.H x → ∃ y ∈ H, y.l = x
  Hn : ∀ y ∈ H, y.l.length = y.n ∧ y.n ≤ h
  nh : n ≤ h
  th : t ≤ h
  T1 : ∀ y ∈ T, 1 ≤ y.n
  H1 : ∀ y ∈ H, 1 ≤ y.n
/-- the first state -/
def st0 (two : Bool) : St := ⟨if two then 2 else 0, 2, 1, [1], fun _ => False, fun _ => False⟩
end DL.Gm
namespace DL.Gm
open PySem DL
/-! ### what the codes of a shape mean -/
abbrev Vc := Nat → Int
def addV (a b : Vc) : Vc := fun i => a i + b i
def vec (x : Pw) : Vc := fun i => x.getD i 0
def dec : List Vc → Nat → Vc
  | [], _ => fun _ => 0
  | a :: as, c => fun i => ((c % 1024 : Nat) : Int) * a i + dec as (c / 1024) i
/-- n digits of at most D -/
def bd (D : Nat) : Nat → Nat → Prop
  | 0, c => c = 0
  | n + 1, c => c % 1024 ≤ D ∧ bd D n (c / 1024)
/-- the powers of a polynomial are among those of a shape -/
def Sub (as : List Vc) (S : List Nat) (p : Pol) : Prop := ∀ x ∈ p, ∃ c ∈ S, dec as c = vec x.1
/-- what one pair's powers are -/
def one (p : Pol) : Vc := match p with
  | [] => fun _ => 0
  | x :: _ => vec x.1
end DL.Gm
namespace DL.Gm
open PySem DL
/-! ### a machine's state beside a state of the game -/
def Low (as : List Vc) (g : St) (p : Pol) : Prop := p.length ≤ 1 ∨ ∃ x, g.T x ∧ Sub as x p
def Kep (as : List Vc) (g : St) (p : Pol) : Prop := p.length ≤ 1 ∨ ∃ x, (g.T x ∨ g.H x ∨ x = g.acc) ∧ Sub as x p
def lvl (s : Gt Pol) (i : Nat) : Pol := s.lv.getD i []
structure Rel (m : Nat) (two : Bool) (as : List Vc) (D : Nat) (g : St) (s : Gt Pol) : Prop where
  cn : s.All (Pl.Cn m)
  len : as.length = g.nv
  bacc : ∀ c ∈ g.acc, bd D as.length c
  bT : ∀ x, g.T x → ∀ c ∈ x, bd D as.length c
  bH : ∀ x, g.H x → ∀ c ∈ x, bd D as.length c
  top : Sub as g.acc (lvl s 0)
  low : ∀ i, 1 ≤ i → i < s.lv.length → Low as g (lvl s i)
  kp : Kep as g s.kp
  mem : Kep as g s.mem
  u0 : g.u = 0 → ∀ i, 1 ≤ i → i < s.lv.length → (lvl s i).length ≤ 1
  u1 : g.u = 1 → ∀ i, 2 ≤ i → i < s.lv.length → (lvl s i).length ≤ 1
  u2 : g.u ≤ 2
  t2 : two = true → s.lv.length = 2 ∧ g.u = 2 ∧ (g.f ≤ 1 → Sub as g.acc (lvl s 1) ∨ ∃ c ∈ g.acc, dec as c = fun _ => 0) ∧ (g.f = 0 → Sub as g.acc (lvl s 1) ∧ ∃ c ∈ g.acc, dec as c = fun _ => 0)
  t3 : two = false → 3 ≤ s.lv.length
section
variable {m : Nat} {two : Bool} {as : List Vc} {D : Nat} {g : St} {s : Gt Pol}
end
section
variable {m : Nat} {two : Bool} {as : List Vc} {D : Nat} {g : St} {s : Gt Pol}
end
end DL.Gm
namespace DL.Gm
/-! ### the game with products counted (p are left), one key known to be a swap (as sw keys are left; more than cap products left there is not asked) -/
noncomputable section
def U2 (r : Nat) : Nat → Nat → Nat → Nat → Bool :=
  @Nat.rec (fun _ => Nat → Nat → Nat → Nat → Bool) (fun _ n _ _ => Nat.ble n 200)
    (fun _ ih p n t h => br (Nat.ble n 200) (br (ih p (Nat.add n t) t (mx h (Nat.add n t))) (br (br (Nat.beq p 0) true (ih (Nat.sub p 1) (Nat.mul n t) t (mx h (Nat.mul n t)))) (ih p (mx h n) (mx t n) (mx h n)) false) false) false) r
def lin (two : Bool) (r p : Nat) (k : Ask) : Ask := fun u f nv t h n acc T H =>
  br (br (br two (Nat.beq f 0) false) true (br (U2 r p (Nat.add n 1) t (mx h (Nat.add n 1))) true (k u (Nat.sub f 1) (Nat.add nv 1) t (mx h (Nat.add n 1)) (Nat.add n 1) (app (pw nv) acc) T (put n acc H))))
   (br (Nat.beq u 0) true (allS (fun x => br (U2 r p (Nat.add n x.n) t (mx h (Nat.add n x.n))) true (k (sub1 u) f nv t (mx h (Nat.add n x.n)) (lnA (mg acc x.l) 0) (mg acc x.l) T (put n acc H))) T)) false
def mul (r p : Nat) (k : Ask) : Ask := fun u _ nv t h n acc T H =>
  br (br (U2 r p n t h) true (k u 2 (Nat.add nv 1) t h n (sh (pw nv) acc) T (put n acc H)))
   (br (Nat.beq u 0) true (allS (fun x => br (U2 r p (Nat.mul n x.n) t (mx h (Nat.mul n x.n))) true (k (sub1 u) 2 nv t (mx h (lnA (m2 n acc x) 0)) (lnA (m2 n acc x) 0) (m2 n acc x) T (put n acc H))) T)) false
def lft (r p : Nat) (k : Ask) : Ask := fun u _ nv t h n acc T H =>
  br (br (U2 r p 1 (mx t n) h) true (k 2 2 (Nat.add nv 1) (mx t n) h 1 [pw nv] (put n acc T) (put n acc H)))
   (br (allS (fun x => br (U2 r p x.n (mx t n) h) true (k (up1 u) 2 nv (mx t n) h x.n x.l (put n acc T) (put n acc H))) (put n acc H))
    (allS (fun x => br (mem x.n x.l (put n acc H)) true (br (U2 r p x.n (mx t n) h) true (k (up1 u) 2 nv (mx t n) h x.n x.l (put n acc T) (put n acc H)))) T) false) false
def exP (two : Bool) (sw cap : Nat) (r : Nat) : Nat → Ask :=
  @Nat.rec (fun _ => Nat → Ask) (fun _ _ _ _ _ _ n _ _ _ => Nat.ble n 200)
    (fun r ih p u f nv t h n acc T H => br (Nat.ble n 200)
      (br (Nat.beq (Nat.succ r) sw) (br (Nat.ble p cap) (lft r p (ih p) u f nv t h n acc T H) true)
        (br (lin two r p (ih p) u f nv t h n acc T H) (br (br (Nat.beq p 0) true (mul r (Nat.sub p 1) (ih (Nat.sub p 1)) u f nv t h n acc T H)) (lft r p (ih p) u f nv t h n acc T H) false) false)) false) r
def goP (two : Bool) (sw cap : Nat) : Bool := exP two sw cap 10 2 (br two 2 0) 2 1 1 1 1 [1] [] []
end
end DL.Gm
namespace DL.Gm
/-! ### what the search with products counted shows -/
inductive StL (two : Bool) (s : St) : St → Prop
  | fresh (h : two = true → s.f ≠ 0) : StL two s ⟨s.u, s.f - 1, s.nv + 1, s.acc ++ [pw s.nv], s.T, plusL s.H s.acc⟩
  | plus {x : List Nat} (hu : s.u ≠ 0) (hx : s.T x) : StL two s ⟨sub1 s.u, s.f, s.nv, mg s.acc x, s.T, plusL s.H s.acc⟩
inductive StM (s : St) : St → Prop
  | dot : StM s ⟨s.u, 2, s.nv + 1, s.acc.map (pw s.nv + ·), s.T, plusL s.H s.acc⟩
  | times {x : List Nat} (hu : s.u ≠ 0) (hx : s.T x) : StM s ⟨sub1 s.u, 2, s.nv, mm s.acc x, s.T, plusL s.H s.acc⟩
inductive StO (s : St) : St → Prop
  | oz : StO s ⟨2, 2, s.nv + 1, [pw s.nv], plusL s.T s.acc, plusL s.H s.acc⟩
  | od {x : List Nat} (hx : plusL s.T s.acc x ∨ plusL s.H s.acc x) : StO s ⟨up1 s.u, 2, s.nv, x, plusL s.T s.acc, plusL s.H s.acc⟩
def Safe2 (two : Bool) (sw cap : Nat) : Nat → Nat → St → Prop
  | 0, _, s => s.acc.length ≤ 200
  | r + 1, p, s => s.acc.length ≤ 200 ∧ (r + 1 = sw → p ≤ cap → ∀ s', StO s s' → Safe2 two sw cap r p s') ∧
      (r + 1 ≠ sw → (∀ s', StL two s s' → Safe2 two sw cap r p s') ∧ (p ≠ 0 → ∀ s', StM s s' → Safe2 two sw cap r (p - 1) s') ∧ ∀ s', StO s s' → Safe2 two sw cap r p s')
section
variable {two : Bool} {sw cap r p : Nat} {k : Ask} {u f nv t h n : Nat} {acc : List Nat} {T H : List Sh} {s : St}
end
end DL.Gm
namespace DL.Gm
end DL.Gm
namespace DL
/-! ### closed under a machine's keys -/
end DL
namespace DL.Gm
open PySem DL
section
variable {α : Type} {d : α}
end
section
variable {m : Nat} {two : Bool} {as : List Vc} {D : Nat} {g : St} {s : Gt Pol} {w : Int} {tc tp tm tt : Tab} {deep : Str} {ks : List Str} {l : List Pol}
end
end DL.Gm
namespace DL.Gm
open PySem DL
/-! ### the machine beside the game with products counted (printed by gen137.py) -/
section
variable {m : Nat} {two : Bool} {as : List Vc} {D : Nat} {g : St} {s : Gt Pol} {w : Int} {tc tp tm tt : Tab} {deep : Str} {ks : List Str} {l : List Pol}
end
end DL.Gm
namespace DL.Gm
open PySem DL
/-! ### rows of ten keys, two products, a swap in the midst -/
section
variable {m : Nat} {two : Bool} {sw cap : Nat} {w : Int} {tc tp tm tt : Tab} {deep : Str} {ks : List Str} {l : List Pol}
end
end DL.Gm
namespace DL
/-! ### from bound to bound -/
end DL
namespace DL.Lf
open PySem PySem.Spec PyProof.Rows L2 DL
/-! ### how great powers and factors may be -/
/-- polynomials with factors that have together less than 10^B, and powers up to G -/
def Inv (m B G : Nat) (p : Pol) : Prop := Pl.Cn m p ∧ Pl.nm p < 10 ^ B ∧ Pl.Dg (G : Nat) p
def gB (k : Ky) (G : Nat) : Nat := if k = .times then 2 * G else G
def rG : List Ky → Nat → Nat
  | [], G => G
  | k :: r, G => rG r (gB k G)
section
variable {m B G : Nat} {w : Int} {tc tp tm tt : Tab} {deep : Str} {ks : List Str} {l : List Pol}
end
section
variable {n : Nat} {w : Int} {tc tp tm tt : Tab} {deep : Str} {ks : List Str} {mode : Str}
end
/-! ### what the polynomials come to -/
def vs (ns : List Int) (s : Gt Pol) : DL.St := ⟨s.lv.map (Pl.val ns), Pl.val ns s.kp, Pl.val ns s.mem, s.way⟩
section
variable {m : Nat} {w : Int} {tc tp tm tt : Tab} {deep : Str} {ks : List Str} {ns : List Int} {l : List Pol} {s : Gt Pol}
end
end DL.Lf
namespace DL.Li
open PySem PySem.Spec PyProof.Rows L2 DL
/-! ### the arithmetic of integers, beside that of polynomials -/
noncomputable def B_run (tc tp tm tt : Tab) : SM := seqS (asgF 4 (makF "Machine" (fun xs => Lg.F_Machine_init (xs ++ [])) [varF 0, varF 1, varF 3, makO "Whole"])) (seqS (forF (itF (varF 2)) (tgName 5) (Lg.L_run_1 tc tp tm tt)) (retF (mtdF "parts" [("Machine", fun xs => Lg.F_Machine_parts (xs ++ []))] (varF 4) [])))
noncomputable abbrev F_run (tc tp tm tt : Tab) : List D → M D := defF 6 (B_run tc tp tm tt)
def iA (tc tp tm tt : Tab) : Ari := ⟨Int, .int, fun i => i, fun x y => x + y, fun x y => x - y, fun x y => x * y, "Whole", [], tc, tp, tm, tt⟩
local macro_rules | `(tactic| and_intros) => `(tactic| repeat (first | with_reducible refine StpA.go ?_ | with_reducible refine StpB.go ?_ | ((with_reducible refine Ok.var ?_); refine ⟨_, rfl, ?_⟩) | ((with_reducible refine Fr.go ?_); intro fr_ e_; simp only [List.set_cons_zero, List.set_cons_succ, setAll, wipeF] at e_; subst e_) | ((with_reducible refine Ok.tgT ?_ ?_); (exact rfl)) | ((with_reducible refine Ok.tgQt ?_ ?_); (exact rfl)) | ((with_reducible refine Ok.tgQl ?_ ?_); (exact rfl)) | with_reducible refine Ok.tupP ?_ | with_reducible refine Ok.tupleP ?_ | ((with_reducible refine Ok.isi_ptu (p := true) ?_ ?_); decide +kernel) | ((with_reducible refine Ok.isi_ptu (p := false) ?_ ?_); decide +kernel) | with_reducible refine ItQ.ptu ?_ | with_reducible refine SrcQ.ptu ?_ | with_reducible refine Ok.len_p ?_ | with_reducible refine Ok.prp1 ?_ | refine ⟨_, _, rfl, (by assumption), ?_⟩ | with_reducible refine Ok.sli_tail ?_ | ((with_reducible refine OkS.aug ?_); refine ⟨_, rfl, ?_⟩) | ((with_reducible refine Ok.ix_t ?_); refine ⟨_, rfl, ?_⟩) | ((with_reducible refine Ok.ix_l ?_); refine ⟨_, rfl, ?_⟩) | ((with_reducible refine Ok.tgT ?_ ?_); exact rfl) | with_reducible refine Ok.sli_t ?_ | with_reducible refine Ok.sli_l ?_ | ((with_reducible refine Ok.mod_ii ?_ ?_); (first | decide | (simp; done) | (simp; omega))) | ((with_reducible refine Ok.add_tt ?_ ?_); (first | decide | (simp; done) | (simp; omega))) | ((with_reducible refine Ok.add_ll ?_ ?_); (first | decide | (simp; done) | (simp; omega))) | ((with_reducible refine Ok.add_ss ?_ ?_); (first | decide | (simp; done) | (simp; omega))) | ((with_reducible refine Ok.rng1 ?_ ?_); (first | decide | omega | (simp; omega))) | ((with_reducible refine Br.dt ?_ ?_); (first | assumption | exact rfl | omega | decide +kernel)) | ((with_reducible refine Br.df ?_ ?_); (first | assumption | omega | decide +kernel)) | ((with_reducible refine Br.tt ?_ ?_); (first | assumption | decide +kernel)) | ((with_reducible refine Br.ff ?_ ?_); (first | assumption | decide +kernel)) | ((with_reducible refine Ok.isi_tup (p := true) ?_ ?_); decide +kernel) | ((with_reducible refine Ok.isi_tup (p := false) ?_ ?_); decide +kernel) | ((with_reducible refine Ok.isi_int (p := true) ?_ ?_); decide +kernel) | ((with_reducible refine Ok.isi_int (p := false) ?_ ?_); decide +kernel) | ((with_reducible refine Ok.isi_str (p := true) ?_ ?_); decide +kernel) | ((with_reducible refine Ok.isi_str (p := false) ?_ ?_); decide +kernel) | ((with_reducible refine Ok.isi_lst (p := true) ?_ ?_); decide +kernel) | ((with_reducible refine Ok.isi_lst (p := false) ?_ ?_); decide +kernel) | ((with_reducible refine Ok.isi_bl (p := true) ?_ ?_); decide +kernel) | ((with_reducible refine Ok.isi_bl (p := false) ?_ ?_); decide +kernel) | ((with_reducible refine Ok.isi_non (p := true) ?_ ?_); decide +kernel) | ((with_reducible refine Ok.isi_non (p := false) ?_ ?_); decide +kernel) | ((with_reducible refine Ok.isi_ctu (p := true) ?_ ?_); decide +kernel) | ((with_reducible refine Ok.isi_ctu (p := false) ?_ ?_); decide +kernel) | ((with_reducible refine Ok.isi_emp (p := true) ?_ ?_); decide +kernel) | ((with_reducible refine Ok.isi_emp (p := false) ?_ ?_); decide +kernel)))
section
variable {tc tp tm tt : Tab} {B : Nat} {deep : Str} {ks : List Str} {ls : List Int} {s : DL.St} {S S0 : Store} {o a b : Nat} {size : Int} {l : D}
def gt (s : DL.St) : Gt Int := ⟨s.lv, s.kp, s.mem, s.way⟩
end
end DL.Li
namespace DL
open PySem PySem.Spec PyProof.Rows L2 DL
end DL
namespace DL.Lf
open PySem PySem.Spec PyProof.Rows L2 DL
local macro_rules | `(tactic| and_intros) => `(tactic| repeat (first | with_reducible refine StpA.go ?_ | with_reducible refine StpB.go ?_ | ((with_reducible refine Ok.var ?_); refine ⟨_, rfl, ?_⟩) | ((with_reducible refine Fr.go ?_); intro fr_ e_; simp only [List.set_cons_zero, List.set_cons_succ, setAll, wipeF] at e_; subst e_) | ((with_reducible refine Ok.tgT ?_ ?_); (exact rfl)) | ((with_reducible refine Ok.tgQt ?_ ?_); (exact rfl)) | ((with_reducible refine Ok.tgQl ?_ ?_); (exact rfl)) | with_reducible refine Ok.tupP ?_ | with_reducible refine Ok.tupleP ?_ | ((with_reducible refine Ok.isi_ptu (p := true) ?_ ?_); decide +kernel) | ((with_reducible refine Ok.isi_ptu (p := false) ?_ ?_); decide +kernel) | with_reducible refine ItQ.ptu ?_ | with_reducible refine SrcQ.ptu ?_ | with_reducible refine Ok.len_p ?_ | with_reducible refine Ok.sli_tail ?_ | ((with_reducible refine OkS.aug ?_); refine ⟨_, rfl, ?_⟩) | ((with_reducible refine Ok.ix_t ?_); refine ⟨_, rfl, ?_⟩) | ((with_reducible refine Ok.ix_l ?_); refine ⟨_, rfl, ?_⟩) | ((with_reducible refine Ok.tgT ?_ ?_); exact rfl) | with_reducible refine Ok.sli_t ?_ | with_reducible refine Ok.sli_l ?_ | ((with_reducible refine Ok.mod_ii ?_ ?_); (first | decide | (simp; done) | (simp; omega))) | ((with_reducible refine Ok.add_tt ?_ ?_); (first | decide | (simp; done) | (simp; omega))) | ((with_reducible refine Ok.add_ll ?_ ?_); (first | decide | (simp; done) | (simp; omega))) | ((with_reducible refine Ok.add_ss ?_ ?_); (first | decide | (simp; done) | (simp; omega))) | ((with_reducible refine Ok.rng1 ?_ ?_); (first | decide | omega | (simp; omega))) | ((with_reducible refine Br.dt ?_ ?_); (first | assumption | exact rfl | omega | decide +kernel)) | ((with_reducible refine Br.df ?_ ?_); (first | assumption | omega | decide +kernel)) | ((with_reducible refine Br.tt ?_ ?_); (first | assumption | decide +kernel)) | ((with_reducible refine Br.ff ?_ ?_); (first | assumption | decide +kernel)) | ((with_reducible refine Ok.isi_tup (p := true) ?_ ?_); decide +kernel) | ((with_reducible refine Ok.isi_tup (p := false) ?_ ?_); decide +kernel) | ((with_reducible refine Ok.isi_int (p := true) ?_ ?_); decide +kernel) | ((with_reducible refine Ok.isi_int (p := false) ?_ ?_); decide +kernel) | ((with_reducible refine Ok.isi_str (p := true) ?_ ?_); decide +kernel) | ((with_reducible refine Ok.isi_str (p := false) ?_ ?_); decide +kernel) | ((with_reducible refine Ok.isi_lst (p := true) ?_ ?_); decide +kernel) | ((with_reducible refine Ok.isi_lst (p := false) ?_ ?_); decide +kernel) | ((with_reducible refine Ok.isi_bl (p := true) ?_ ?_); decide +kernel) | ((with_reducible refine Ok.isi_bl (p := false) ?_ ?_); decide +kernel) | ((with_reducible refine Ok.isi_non (p := true) ?_ ?_); decide +kernel) | ((with_reducible refine Ok.isi_non (p := false) ?_ ?_); decide +kernel) | ((with_reducible refine Ok.isi_ctu (p := true) ?_ ?_); decide +kernel) | ((with_reducible refine Ok.isi_ctu (p := false) ?_ ?_); decide +kernel) | ((with_reducible refine Ok.isi_emp (p := true) ?_ ?_); decide +kernel) | ((with_reducible refine Ok.isi_emp (p := false) ?_ ?_); decide +kernel)))
section
variable {S : Store} {QD : D → Store → Prop} {m B G n : Nat} {w : Int} {tc tp tm tt : Tab} {deep : Str} {ks : List Str}
end
/-- what a row does, as polynomials -/
def effN (n : Nat) (deep : Str) (ks : List Str) (mode : Str) (r : List Ky) : Gt Pol := Lg.runG (fA 0 (n + 6) [] [] [] []) deep ks (l0 n) r (s0 n mode)
def fnd (g : Gt Pol) : D := .tup [.tup (g.lv.map Pl.d), Pl.d g.kp, Pl.d g.mem, .str g.way]
section
variable {S : Store} {n b : Nat} {size : Int} {tc tp tm tt : Tab} {deep : Str} {ks : List Str} {mode : Str} {r : List Ky}
end
end DL.Lf
namespace DL
open PySem PySem.Spec PyProof.Rows L2
/-! ### t.index(x) where it is found: tuples of texts -/
def strsOf : List D → Option (List Str)
  | [] => some []
  | .str a :: r => (strsOf r).map (a :: ·)
  | _ => none
def tixL (l : List D) (b : Str) : M D := fun S => match strsOf l with
  | some ys => if ys.idxOf b < ys.length then .ok (.int (ys.idxOf b : Nat)) S else .bad
  | none => .bad
def tixD (d : D) (xs : List D) : M D := fun S => match d, xs with
  | .ctu l, [.str b] => tixL l b S
  | .tup l, [.str b] => tixL l b S
  | _, _ => .bad
section
variable {X : Cx} {W : WE} {e o : Expr} {es : List Expr} {apos cpos : Pos} {fa : Frame → M D} {fs : List (Frame → M D)}
/-- K.index(x), K a tuple of texts of the module -/
def cixF (l : List Str) (fs : List (Frame → M D)) : Frame → M D := fun fr => bnd (seqA fs fr) fun xs => tixD (.ctu (l.map .str)) xs
def TupN (K : PySem.W.Frag) (mg : Str → Option Value) (x : Str) : Prop := ∃ a o, mg x = some (.ref a) ∧ K.lookup a = some o ∧ o.cls = .type "tuple" ∧ o.dict = none
end
end DL
namespace DL.Lf
open PySem PySem.Spec PyProof.Rows L2 DL
def K_MODES : List Str := ["free", "held", "open"]
noncomputable def B_polys_of : SM := retF (binF addD (binF ixD (varF 0) (cstF (.int 0))) (tupF [binF ixD (varF 0) (cstF (.int 1)), binF ixD (varF 0) (cstF (.int 2))]))
noncomputable abbrev F_polys_of : List D → M D := defF 1 B_polys_of
noncomputable def E_effects_1 (tc tp tm tt : Tab) : DL.Frame → M D := calF (fun xs => F_effect tc tp tm tt (xs ++ [])) [varF 0, varF 2, varF 1]
noncomputable def B_effects (tc tp tm tt : Tab) : SM := retF (cmpD [2] (itF (cstF (.ctu (K_MODES.map .str)))) (tgName 2) (yesF) (E_effects_1 tc tp tm tt))
noncomputable abbrev F_effects (tc tp tm tt : Tab) : List D → M D := defF 3 (B_effects tc tp tm tt)
noncomputable def B_polys_from (tc tp tm tt : Tab) : SM := retF (calF (fun xs => F_polys_of (xs ++ [])) [binF ixD (calF (fun xs => F_effects tc tp tm tt (xs ++ [])) [varF 0, varF 2]) (cixF K_MODES [varF 1])])
noncomputable abbrev F_polys_from (tc tp tm tt : Tab) : List D → M D := defF 3 (B_polys_from tc tp tm tt)
noncomputable def E_unknowns_in_2 : DL.Frame → M D := binF gtD (binF ixD (varF 3) (varF 2)) (cstF (.int 0))
noncomputable def E_unknowns_in_1 : DL.Frame → M D := varF 2
noncomputable def T_unknowns_in_1 : DL.Frame → M Bool := tstF (calF anyD [cmpD [3, 4] (itF (varF 0)) (tgTup [tgName 3, tgName 4]) (yesF) (E_unknowns_in_2)])
noncomputable def B_unknowns_in : SM := retF (calF tupleD [cmpD [2] (rngF rng1 [varF 1]) (tgName 2) (T_unknowns_in_1) (E_unknowns_in_1)])
noncomputable abbrev F_unknowns_in : List D → M D := defF 5 B_unknowns_in
noncomputable def E_hangs_1 : DL.Frame → M D := calF (fun xs => F_unknowns_in (xs ++ [])) [varF 4, varF 3]
noncomputable def B_hangs (tc tp tm tt : Tab) : SM := seqS (asgF 3 (calF (fun xs => F_many_unknowns (xs ++ [])) [varF 0])) (retF (calF tupleD [cmpD [4] (itF (calF (fun xs => F_polys_from tc tp tm tt (xs ++ [])) [varF 0, varF 1, varF 2])) (tgName 4) (yesF) (E_hangs_1)]))
noncomputable abbrev F_hangs (tc tp tm tt : Tab) : List D → M D := defF 5 (B_hangs tc tp tm tt)
noncomputable def E_lost_2 : DL.Frame → M D := binF inD (varF 4) (varF 5)
noncomputable def E_lost_1 : DL.Frame → M D := varF 4
noncomputable def T_lost_1 : DL.Frame → M Bool := notF (tstF (calF anyD [cmpD [5] (itF (varF 3)) (tgName 5) (yesF) (E_lost_2)]))
noncomputable def B_lost (tc tp tm tt : Tab) : SM := seqS (asgF 3 (calF (fun xs => F_hangs tc tp tm tt (xs ++ [])) [varF 0, varF 1, varF 2])) (retF (calF tupleD [cmpD [4] (rngF rng1 [calF (fun xs => F_many_unknowns (xs ++ [])) [varF 0]]) (tgName 4) (T_lost_1) (E_lost_1)]))
noncomputable abbrev F_lost (tc tp tm tt : Tab) : List D → M D := defF 6 (B_lost tc tp tm tt)
local macro_rules | `(tactic| and_intros) => `(tactic| repeat (first | with_reducible refine StpA.go ?_ | with_reducible refine StpB.go ?_ | ((with_reducible refine Ok.var ?_); refine ⟨_, rfl, ?_⟩) | ((with_reducible refine Fr.go ?_); intro fr_ e_; simp only [List.set_cons_zero, List.set_cons_succ, setAll, wipeF] at e_; subst e_) | ((with_reducible refine Ok.tgT ?_ ?_); (exact rfl)) | ((with_reducible refine Ok.tgQt ?_ ?_); (exact rfl)) | ((with_reducible refine Ok.tgQl ?_ ?_); (exact rfl)) | with_reducible refine Ok.tupP ?_ | with_reducible refine Ok.tupleP ?_ | ((with_reducible refine Ok.isi_ptu (p := true) ?_ ?_); decide +kernel) | ((with_reducible refine Ok.isi_ptu (p := false) ?_ ?_); decide +kernel) | with_reducible refine ItQ.ptu ?_ | with_reducible refine SrcQ.ptu ?_ | with_reducible refine Ok.len_p ?_ | with_reducible refine Ok.prp1 ?_ | refine ⟨_, _, rfl, (by assumption), ?_⟩ | with_reducible refine Ok.sli_tail ?_ | ((with_reducible refine OkS.aug ?_); refine ⟨_, rfl, ?_⟩) | ((with_reducible refine Ok.ix_t ?_); refine ⟨_, rfl, ?_⟩) | ((with_reducible refine Ok.ix_l ?_); refine ⟨_, rfl, ?_⟩) | ((with_reducible refine Ok.tgT ?_ ?_); exact rfl) | with_reducible refine Ok.sli_t ?_ | with_reducible refine Ok.sli_l ?_ | ((with_reducible refine Ok.mod_ii ?_ ?_); (first | decide | (simp; done) | (simp; omega))) | ((with_reducible refine Ok.add_tt ?_ ?_); (first | decide | (simp; done) | (simp; omega))) | ((with_reducible refine Ok.add_ll ?_ ?_); (first | decide | (simp; done) | (simp; omega))) | ((with_reducible refine Ok.add_ss ?_ ?_); (first | decide | (simp; done) | (simp; omega))) | ((with_reducible refine Ok.rng1 ?_ ?_); (first | decide | omega | (simp; omega))) | ((with_reducible refine Br.dt ?_ ?_); (first | assumption | exact rfl | omega | decide +kernel)) | ((with_reducible refine Br.df ?_ ?_); (first | assumption | omega | decide +kernel)) | ((with_reducible refine Br.tt ?_ ?_); (first | assumption | decide +kernel)) | ((with_reducible refine Br.ff ?_ ?_); (first | assumption | decide +kernel)) | ((with_reducible refine Ok.isi_tup (p := true) ?_ ?_); decide +kernel) | ((with_reducible refine Ok.isi_tup (p := false) ?_ ?_); decide +kernel) | ((with_reducible refine Ok.isi_int (p := true) ?_ ?_); decide +kernel) | ((with_reducible refine Ok.isi_int (p := false) ?_ ?_); decide +kernel) | ((with_reducible refine Ok.isi_str (p := true) ?_ ?_); decide +kernel) | ((with_reducible refine Ok.isi_str (p := false) ?_ ?_); decide +kernel) | ((with_reducible refine Ok.isi_lst (p := true) ?_ ?_); decide +kernel) | ((with_reducible refine Ok.isi_lst (p := false) ?_ ?_); decide +kernel) | ((with_reducible refine Ok.isi_bl (p := true) ?_ ?_); decide +kernel) | ((with_reducible refine Ok.isi_bl (p := false) ?_ ?_); decide +kernel) | ((with_reducible refine Ok.isi_non (p := true) ?_ ?_); decide +kernel) | ((with_reducible refine Ok.isi_non (p := false) ?_ ?_); decide +kernel) | ((with_reducible refine Ok.isi_ctu (p := true) ?_ ?_); decide +kernel) | ((with_reducible refine Ok.isi_ctu (p := false) ?_ ?_); decide +kernel) | ((with_reducible refine Ok.isi_emp (p := true) ?_ ?_); decide +kernel) | ((with_reducible refine Ok.isi_emp (p := false) ?_ ?_); decide +kernel)))
/-- the tables of the methods hold the arithmetic of polynomials -/
structure Tabs (tc tp tm tt : Tab) : Prop where
  c : tc.lookup ("Formal" : Str) = some fun xs => F_Formal_constant (xs ++ [])
  p : tp.lookup ("Formal" : Str) = some fun xs => F_Formal_plus (xs ++ [])
  m : tm.lookup ("Formal" : Str) = some fun xs => F_Formal_minus (xs ++ [])
  t : tt.lookup ("Formal" : Str) = some fun xs => F_Formal_times (xs ++ [])
/-- which effect of a row is told whole: the row is narrow -/
def Narrow (n : Nat) (r : List Ky) : Prop := r.length ≤ 9
def polys (g : Gt Pol) : List Pol := g.lv ++ [g.kp, g.mem]
/-- the unknowns that stand in a polynomial -/
def hasU (p : Pol) (i : Nat) : Bool := p.any fun x => decide (0 < x.1.getD i 0)
def uns (m : Nat) (p : Pol) : List Nat := (List.range m).filter (hasU p)
section
variable {S : Store} {QD : D → Store → Prop} {n m b : Nat} {w size : Int} {tc tp tm tt : Tab} {deep : Str} {ks : List Str} {mode : Str} {r : List Ky}
def natsD (l : List Nat) : D := .tup (l.map fun j => .int (j : Nat))
def hangsN (n : Nat) (P : List Pol) : D := .tup (P.map fun p => natsD (uns (n + 6) p))
def lostN (n : Nat) (P : List Pol) : List Nat := (List.range (n + 6)).filter fun i => !(P.any fun p => decide (i ∈ uns (n + 6) p))
end
end DL.Lf
namespace DL.Pl
open PySem PySem.Spec PyProof.Rows L2 DL
/-! ### what one number does to a polynomial's value -/
/-- powers with a sum of at most 1 -/
def Flk (k : Pw) : Prop := k.sum ≤ 1
def Fl1 (p : Pol) : Prop := ∀ x ∈ p, Flk x.1
section
variable {m i : Nat} {p : Pol} {ns : List Int} {z : Int}
end
end DL.Pl
namespace DL.Lf
open PySem PySem.Spec PyProof.Rows L2 DL
/-! ### rows without products: flat ends -/
section
variable {m n : Nat} {w : Int} {tc tp tm tt : Tab} {deep : Str} {ks : List Str} {l : List Pol} {mode : Str}
def Flt (m : Nat) (p : Pol) : Prop := Pl.Cn m p ∧ Pl.Fl1 p
end
end DL.Lf
namespace DL.Pl
open PySem PySem.Spec PyProof.Rows L2 DL
/-! ### numbers at which a polynomial is not 0 -/
/-! one unknown -/
def ev : List Int → Int → Int
  | [], _ => 0
  | c :: cs, z => c + z * ev cs z
def quo (a : Int) : List Int → List Int
  | [] => []
  | c :: cs => ev (c :: cs) a :: quo a cs
/-! a number in the place of an unknown -/
def subP (i : Nat) (z : Int) (p : Pol) : Pol := p.map fun x => (x.1.set i 0, x.2 * z ^ (x.1.getD i 0).toNat)
def withN (p : Pol) (i : Nat) (z : Int) : Pol := mk (addAll [] (subP i z p))
/-! the least such number, all of them -/
def lstN (p : Pol) (i : Nat) : Nat → Nat → Nat
  | 0, z => z
  | f + 1, z => if withN p i z = [] then lstN p i f (z + 1) else z
def bes (p : Pol) (i : Nat) : Nat → List Nat
  | 0 => []
  | c + 1 => lstN p i 100 0 :: bes (withN p i (lstN p i 100 0)) (i + 1) c
/-- the numbers that the program tells of a polynomial -/
def nums (p : Pol) (m : Nat) : List Int := (bes p 0 m).map fun z : Nat => (z : Int)
/-! an unknown made greater by 1 -/
def bin : Nat → Nat → Nat
  | _, 0 => 1
  | 0, _ + 1 => 0
  | n + 1, k + 1 => bin n k + bin n (k + 1)
def mov1 (i : Nat) (x : Pw × Int) : Pol := (List.range' 0 ((x.1.getD i 0).toNat + 1)).map fun j => (x.1.set i (j : Nat), x.2 * (bin (x.1.getD i 0).toNat j : Nat))
def movP (i : Nat) (p : Pol) : Pol := p.flatMap (mov1 i)
def upN (i : Nat) (p : Pol) : Pol := mk (addAll [] (movP i p))
def moved (p : Pol) (i : Nat) : Pol := minus (upN i p) p
end DL.Pl
namespace DL
open PySem PySem.Spec PyProof.Rows L2
/-! ### while: at most so many turns -/
def whileL (c : Frame → M Bool) (b : SM) : Nat → SM
  | 0 => fun _ _ => .bad
  | n + 1 => fun fr S => exS (c fr S) fr fun t S1 => match t with
    | false => .ok .nx fr S1
    | true => match b fr S1 with
      | .ok .nx fr2 S2 => whileL c b n fr2 S2
      | .ok .ct fr2 S2 => whileL c b n fr2 S2
      | .ok .bk fr2 S2 => .ok .nx fr2 S2
      | q => q
def whileF (c : Frame → M Bool) (b : SM) : SM := whileL c b 1000000
section
variable {X : Cx} {W : WE} {e : Expr} {body : List Stmt} {pos : Pos} {fc : Frame → M Bool} {f : SM}
end
end DL
namespace DL
open PySem PySem.Spec PyProof.Rows L2
/-! ### a comprehension over d.items() whose target is a name: the iterator holds its first tuple, which lives on -/
/-- what the iterator says: none is out, or the tuple at a is -/
def tnN (it d : Addr) (n ep : Nat) : Option Addr → Nat → Heap → Prop
  | none, i, h => ∃ a b, IsItemIter h it d i n ep a b
  | some a, i, h => (∃ x y f, PySem.W.KdxIt h it d i n ep x y a f) ∧ a ≠ it
/-- the address of the tuple that is out lives -/
def Lives (H : Hp) (oa : Option Addr) : Prop := ∀ a, oa = some a → ∃ l, H a = some (.tup l)
section
variable {X : Cx} {pins : List (Addr × Obj)} {σ : L2.St} {H : Hp} {s : Shared} {d it : Addr} {o : Obj} {es : Array DictEntry} {ep : Nat} {kvs : List (List Key × V)} {oa : Option Addr} {i : Nat} {E : Value → Shared → Prop}
end
/-- e.items() makes an iterator over the frozen dict at d -/
def iPN (td : TE) : L2.St → Hp → (Addr → Obj → List (List Key × V) → Hp → Prop) → Prop := fun σ H R => td σ H fun x H1 => ∃ d o kvs, x = .ref d ∧ H1 d = some (.frz o (.dT kvs)) ∧ R d o kvs H1
def PIEN (X : Cx) (pins : List (Addr × Obj)) (σ : L2.St) (R : Addr → Obj → List (List Key × V) → Hp → Prop) (itv : Value) (s2 : Shared) : Prop :=
  ∃ (it d : Addr) (o : Obj) (kvs : List (List Key × V)) (es : Array DictEntry) (ep : Nat) (H' : Hp), itv = .ref it ∧ o.data = .dict es ep ∧ Inv X pins σ H' s2 ∧ (∃ a b, IsItemIter s2.heap it d 0 kvs.length ep a b) ∧ FpOk X pins H' it ∧ R d o kvs H'
end DL
namespace DL
open PySem PySem.Spec PyProof.Rows L2
def tLcN (td : TE) (g : TG) (tt : TT) (te : TE) (vs : List Nat) : TE := fun σ H Q => iPN td σ H fun d o kvs H1 => ∀ D, H1 D = none → ∃ W : Option Addr → Nat → Hp → Prop, W none 0 (upd H1 D (.lst [])) ∧ ∀ oa i H, W oa i H →
  H d = some (.frz o (.dT kvs)) ∧ Lives H oa ∧ (kvs.length ≤ i → Q (.ref D) H) ∧ (i < kvs.length → ∀ T H', (ItP d o kvs).yld i H (.ref T) H' → ∃ Nx : Hp → Prop, (∀ H'', Nx H'' → W (some (oa.getD T)) (i + 1) H'') ∧
    g (.ref T) (wipe σ vs) H' fun σ2 H2 => wipe σ2 vs = wipe σ vs ∧ tt σ2 H2 fun b H3 => if b = true then te σ2 H3 fun y H4 => ∃ acc, H4 D = some (.lst acc) ∧ acc.length < sizeLine ∧ Nx (upd H4 D (.lst (acc ++ [y]))) else Nx H3)
section
variable {X : Cx} {elt e : Expr} {ifs : List Expr} {scope : Scope} {own : List (Str × Nat)} {pos ap cp tp : Pos} {td : TE} {g : TG} {tt : TT} {te : TE} {x : Str}
end
end DL
namespace DL
open PySem PySem.Spec PyProof.Rows L2
section
variable {X : Cx} {g : D → Frame → M Frame} {ft : Frame → M Bool} {fe : Frame → M D} {ts : List Nat}
end
def oItT : Option (Option O) → Option (List (List Key × D))
  | some (some (.dt l)) => some l
  | _ => none
noncomputable def cmpJ (vs : List Nat) (i : Nat) (g : D → Frame → M Frame) (t : Frame → M Bool) (elt : Frame → M D) : Frame → M D := fun fr S => match fr[i]? with
  | some (some (.ob n)) => (match oItT S[n]? with
    | some xs => bnd (cmpF vs (fun _ => ret fun _ => some (itemsT xs)) g t elt fr) (fun l => ret (.lst l)) (S.set n none)
    | none => .bad)
  | _ => .bad
section
variable {X : Cx} {elt : Expr} {ifs : List Expr} {scope : Scope} {pos ap cp p tp : Pos} {own : List (Str × Nat)} {g : D → Frame → M Frame} {ft : Frame → M Bool} {fe : Frame → M D} {ts : List Nat} {x y : Str} {i : Nat}
end
end DL
namespace DL
open PySem PySem.Spec PyProof.Rows L2

/-! ### an error's __init__ -/
/-- a class whose __init__ is ValueError's -/
structure BaseE (K : PySem.W.Frag) (L : Addr) : Prop where
  sp : PySem.W.specialIn K (.ref L) "__getattribute__" = some (some (.builtin "type.__getattribute__"))
  rd : PySem.W.readsIn K L (.type "type") = true
  fc : PySem.W.findCls K (.ref L) (.type "type") "__init__" = some (.val (.builtin "ValueError.__init__"))
section
variable {X : Cx} {e : Expr} {es : List Expr} {ta : TA} {p1 p2 pos : Pos}
end
/-- what __init__ of an error of one field keeps -/
def spI (K : PySem.W.Frag) (C : Addr) (f : Str) : Sp := fun vs H Q _ => ∃ a v, vs = [.ref a, v] ∧ OexC K C ∧ PySem.W.findIn K (.ref C) f = some none ∧ H a = some (exo a C none) ∧ ∀ dx, H dx = none → dx ≠ a → Q .non (upd (upd H dx (exd dx [(f, v)])) a (exo a C (some dx)))
/-! ### raise C(e) -/
/-- an error's class of one field -/
structure ErrI (P : Program) (w : World) (K : PySem.W.Frag) (mg : Str → Option Value) (base : Heap) (j : Nat) (c f : Str) : Prop where
  ex : ∃ (C fI : Addr) (fd : FuncData) (p : Str), mg c = some (.ref C) ∧ OexC K C ∧ PySem.W.findIn K (.ref C) f = some none ∧ PySem.W.findIn K (.ref C) "__init__" = some (some (.ref fI)) ∧ PySem.W.typeIn K (.ref fI) = some (.type "function") ∧
    FnOk P w K mg base CX0 j fI fd ["self", p] (spI K C f) ∧ Binds K fd ["self", p] []
def raiF (c f : Str) (fe : Frame → M D) : SM := fun fr S => exS (fe fr S) fr fun d S' => .err ⟨c, [(f, d)]⟩ fr S'
section
variable {X : Cx} {W : WE} {e : Expr} {fe : Frame → M D} {p pos pos2 : Pos} {c f : Str} {j : Nat}
end

/-! ### defs that may raise -/
section
variable {X : Cx} {W : WE} {N : List Str} {sc : Scope} {b : Option Scope} {k : Nat} {e : Expr} {es : List Expr} {pos p : Pos} {fs : List (Frame → M D)} {x : Str}
end
end DL
namespace DL
open PySem PySem.Spec PyProof.Rows L2

/-! ### try: body, except C as n: suite -/
def endS (i : Nat) : RS → RS
  | .ok fl fr S => .ok fl (fr.set i none) S
  | _ => .bad
def tryF (cs : List (Str × Bool)) (i : Nat) (f : SM) (g : Exc → SM) : SM := fun fr S => match f fr S with
  | .err x fr' S' => (match cs.lookup x.cls with
    | some true => endS i (g x (fr'.set i none) S')
    | some false => .err x fr' S'
    | none => .bad)
  | r => r
/-- the exception x is held at a in slot i -/
structure HX (K : PySem.W.Frag) (mg : Str → Option Value) (i : Nat) (a : Addr) (cls : Value) (d : Option Addr) (x : Exc) (ι : List Addr) (fr : Frame) (S : Store) (σ : L2.St) (H : Hp) : Prop where
  sr : SR K mg ι S H
  fr : FR K ι fr σ H
  sl : i < σ.length → σ[i]? = some (some (.ref a))
  xr : XR K mg ι H x cls d
/-- the suite's reading -/
def trX (K : PySem.W.Frag) (mg : Str → Option Value) (i : Nat) (a : Addr) (cls : Value) (d : Option Addr) (x : Exc) (f : SM) : TS := fun D σ H => ∃ ι fr S, HX K mg i a cls d x ι fr S σ H ∧ PoS K mg (fun _ _ _ _ => False) ι H (f fr S) D
/-- .. of an expression that leaves the heap -/
def trP (K : PySem.W.Frag) (mg : Str → Option Value) (i : Nat) (a : Addr) (cls : Value) (d : Option Addr) (x : Exc) (o : Option D) : TE := fun σ H Q => ∃ ι fr S dv, HX K mg i a cls d x ι fr S σ H ∧ o = some dv ∧ ∀ v, Rp K ι H dv v → Q v H
def trPs (K : PySem.W.Frag) (mg : Str → Option Value) (i : Nat) (a : Addr) (cls : Value) (d : Option Addr) (x : Exc) (o : Option (List D)) : TA := fun σ H Q => ∃ ι fr S dv, HX K mg i a cls d x ι fr S σ H ∧ o = some dv ∧ ∀ v, Rps K ι H dv v → Q v H
/-- .. of one that may lay things -/
def trEx (K : PySem.W.Frag) (mg : Str → Option Value) (i : Nat) (a : Addr) (cls : Value) (d : Option Addr) (x : Exc) (f : Frame → M D) : TE := fun σ H Q => ∃ ι fr S, HX K mg i a cls d x ι fr S σ H ∧ Po K mg ι H (f fr S) (kE K Q) (fun _ _ _ _ => False)
abbrev Hld (X : Cx) (a : Addr) (oe : Obj) (pn : List (Addr × Obj)) : Cx := X.suite a ((a, oe) :: pn)
def DQx (X : Cx) (i : Nat) (o : Exc → Option D) (e : Expr) : Prop :=
  ∀ (a : Addr) (oe : Obj) (cls : Value) (d : Option Addr) (pn : List (Addr × Obj)) (x : Exc), Zc cls d oe → (∃ vs, oe.data = .fields vs) → PE (Hld X a oe pn) e (trP X.K X.mg i a cls d x (o x))
def DQs (X : Cx) (i : Nat) (o : Exc → Option (List D)) (e : List Expr) : Prop :=
  ∀ (a : Addr) (oe : Obj) (cls : Value) (d : Option Addr) (pn : List (Addr × Obj)) (x : Exc), Zc cls d oe → (∃ vs, oe.data = .fields vs) → PA (Hld X a oe pn) e (trPs X.K X.mg i a cls d x (o x))
def DEx (X : Cx) (i : Nat) (f : Exc → Frame → M D) (e : Expr) : Prop :=
  ∀ (a : Addr) (oe : Obj) (cls : Value) (d : Option Addr) (pn : List (Addr × Obj)) (x : Exc), Zc cls d oe → (∃ vs, oe.data = .fields vs) → PE (Hld X a oe pn) e (trEx X.K X.mg i a cls d x (f x))
/-- a suite for each exception -/
def DX (X : Cx) (i : Nat) (g : Exc → SM) (suite : List Stmt) : Prop :=
  ∀ (a : Addr) (oe : Obj) (cls : Value) (d : Option Addr) (pn : List (Addr × Obj)) (x : Exc), Zc cls d oe → (∃ vs, oe.data = .fields vs) → PSs (Hld X a oe pn) suite (trX X.K X.mg i a cls d x (g x))

section
variable {K : PySem.W.Frag} {ι : List Addr} {H : Hp}
end
section
variable {X : Cx} {W : WE} {i : Nat} {N : List Str} {sc : Scope} {b : Option Scope} {k : Nat}
/-- what an error's class says, so that a field of it may be asked -/
structure ErrG (K : PySem.W.Frag) (C : Addr) (f : Str) : Prop where
  ga : PySem.W.findIn K (.ref C) "__getattribute__" = some (some (.builtin "BaseException.__getattribute__"))
  gg : PySem.W.findIn K (.ref C) "__getattr__" = some none
  ex : PySem.W.subIn K (.ref C) (.type "BaseException") = some true
  hd : PySem.W.hasDictIn K C = true
  no : PySem.W.findIn K (.ref C) f = some none
def fldX (cs : List Str) (f : Str) : Exc → Option D := fun x => if cs.contains x.cls then x.fs.lookup f else none
def EGs (K : PySem.W.Frag) (mg : Str → Option Value) (f : Str) : List Str → Prop
  | [] => True
  | c :: r => (∃ C, mg c = some (.ref C) ∧ ErrG K C f) ∧ EGs K mg f r
/-- what an error's class says, so that isinstance may ask: c the class that is asked for -/
structure ErrK (K : PySem.W.Frag) (D : Addr) (cv : Value) (b : Bool) : Prop where
  cl : (PySem.W.clsIn K D).isSome = true
  ga : PySem.W.findIn K (.ref D) "__getattribute__" = some (some (.builtin "BaseException.__getattribute__"))
  gg : PySem.W.findIn K (.ref D) "__getattr__" = some none
  ex : PySem.W.subIn K (.ref D) (.type "BaseException") = some true
  ca : PySem.W.findIn K (.ref D) "__class__" = some (some (.builtin "object.__class__"))
  cg : PySem.W.specialIn K (.builtin "object.__class__") "__get__" = some (some (.builtin "getset_descriptor.__get__"))
  ct : PySem.W.takesIn K (.builtin "object.__class__") = some true
  mo : PySem.W.mroIn K D (.type "object") = some true
  ki : PySem.W.kitOne K (.ref D) cv = some b
def EKs (K : PySem.W.Frag) (mg : Str → Option Value) (cv : Value) : List (Str × Bool) → Prop
  | [] => True
  | (c, b) :: r => (∃ C, mg c = some (.ref C) ∧ ErrK K C cv b) ∧ EKs K mg cv r
def isX (cs : List (Str × Bool)) : Exc → Option D := fun x => (cs.lookup x.cls).map .bl
/-! ### lists, stores, the suite -/
def consX (o : Exc → Option D) (os : Exc → Option (List D)) : Exc → Option (List D) := fun x => (o x).bind fun d => (os x).map fun l => d :: l
def retX (o : Exc → Option D) : Exc → Frame → M D := fun x _ => match o x with
  | some d => ret d
  | none => bad
def lstX (o : Exc → Option (List D)) : Exc → Frame → M D := fun x _ => match o x with
  | some l => ret (.lst l)
  | none => bad
def iteX (o : Exc → Option D) (f g : Exc → Frame → M D) : Exc → Frame → M D := fun x fr => match o x with
  | some (.bl true) => f x fr
  | some (.bl false) => g x fr
  | _ => bad
def setX (j : Nat) (f : Exc → Frame → M D) : Exc → SM := fun x fr S => match f x fr S with
  | .ok d S' => .ok .nx (fr.set j (some d)) S'
  | _ => .bad
/-! ### the try -/
/-- what the clause's class says of the errors' classes -/
def EMs (K : PySem.W.Frag) (mg : Str → Option Value) (cv : Value) : List (Str × Bool) → Prop
  | [] => True
  | (c, b) :: r => (∃ C, mg c = some (.ref C) ∧ PySem.W.exmOne K (.ref C) cv = some b) ∧ EMs K mg cv r
/-- a class that a clause names -/
def TryE (K : PySem.W.Frag) (mg : Str → Option Value) (cn : Str) (cs : List (Str × Bool)) : Prop := ∃ cv, (mg cn = some cv ∨ (mg cn = none ∧ bootBuiltins cn = some cv ∧ cn ≠ "__name__")) ∧ EMs K mg cv cs
/-- a class that isinstance names -/
def IsiE (K : PySem.W.Frag) (mg : Str → Option Value) (cn : Str) (cs : List (Str × Bool)) : Prop := ∃ (cv : Value) (c2 : V), (mg cn = some cv ∨ (mg cn = none ∧ bootBuiltins cn = some cv)) ∧ RelV c2 cv ∧ (∀ u, RelV c2 u → u = cv) ∧ EKs K mg cv cs
/-- what a body with a try knows of its frame -/
structure FrmD (X : Cx) : Prop where
  st : X.stack = X.env :: X.outer
  fr : X.env.frame = some X.env.locals
end
end DL
namespace DL
open PySem PySem.Spec PyProof.Rows L2

/-! ### comprehensions of two clauses -/
noncomputable def cmpG (vs : List Nat) (f : Frame → M Src) (g : D → Frame → M Frame) (t : Frame → M Bool) (elt : Frame → M D) : Frame → M (List D) := fun fr => bnd (f fr) fun src => fun S => match src S with
  | some xs => if xs.length ≤ 1000 then nox (cmpL src xs g t elt (wipeF fr vs) xs) S else .bad
  | none => .bad
open Classical in
noncomputable def cmp2L (src : Src) (xs : List D) (g : D → Frame → M Frame) (t : Frame → M Bool) (fin : Frame → M (List D)) (fr : Frame) : List D → M (List D)
  | [] => fun S => if src S = some xs then .ok [] S else .bad
  | x :: r => fun S => if src S = some xs then (match g x fr S with
      | .ok fr1 S1 => (match t fr1 S1 with
        | .ok true S2 => (match fin fr1 S2 with
          | .ok ys S3 => bnd (cmp2L src xs g t fin fr r) (fun zs => ret (ys ++ zs)) S3
          | _ => .bad)
        | .ok false S2 => cmp2L src xs g t fin fr r S2
        | _ => .bad)
      | _ => .bad) else .bad
noncomputable def cmp2F (vs vs1 : List Nat) (f : Frame → M Src) (g : D → Frame → M Frame) (t : Frame → M Bool) (f1 : Frame → M Src) (g1 : D → Frame → M Frame) (t1 : Frame → M Bool) (elt : Frame → M D) : Frame → M (List D) := fun fr => bnd (f fr) fun src => fun S => match src S with
  | some xs => if xs.length ≤ 10000 then nox (cmp2L src xs g t (cmpG vs1 f1 g1 t1 elt) (wipeF fr vs) xs) S else .bad
  | none => .bad
noncomputable def cmp2D (vs vs1 : List Nat) (f : Frame → M Src) (g : D → Frame → M Frame) (t : Frame → M Bool) (f1 : Frame → M Src) (g1 : D → Frame → M Frame) (t1 : Frame → M Bool) (elt : Frame → M D) : Frame → M D := fun fr => bnd (cmp2F vs vs1 f g t f1 g1 t1 elt fr) fun l => ret (.lst l)
section
variable {X : Cx} {fi : Frame → M Src} {g : D → Frame → M Frame} {ft : Frame → M Bool} {fe : Frame → M D} {ts : List Nat}
/-- a source, whatever its rule -/
def trI (K : PySem.W.Frag) (mg : Str → Option Value) (f : Frame → M Src) : TI := fun σ H R => ∃ ι fr S, SR K mg ι S H ∧ FR K ι fr σ H ∧ Po K mg ι H (f fr S) (fun src _ ι' H' => ∀ J A, ItD K mg J A src → A ι' H' → R J H') (kX K mg W0 σ)
end
section
variable {X : Cx} {W : WE} {N : List Str} {sc : Scope} {bb : Option Scope} {k : Nat} {elt tg iter tg1 iter1 : Expr} {ifs ifs1 : List Expr} {scope : Scope} {pos : Pos} {fi f1 : Frame → M Src} {g g1 : D → Frame → M Frame} {ft t1 : Frame → M Bool} {fe : Frame → M D} {ts ts1 : List Nat} {i : Nat} {x : Str}
end
end DL
namespace DL
open PySem PySem.Spec PyProof.Rows L2 DL
/-! ### mirrors that raise -/
def Er {α : Type} (r : R α) (E : Exc → Store → Prop) : Prop := match r with
  | .err x S => E x S
  | _ => False
def ErS (r : RS) (E : Exc → Frame → Store → Prop) : Prop := match r with
  | .err x fr S => E x fr S
  | _ => False
section
variable {α β : Type} {E : Exc → Store → Prop} {ES : Exc → Frame → Store → Prop} {S : Store} {fr : Frame} {QS : Fl → Frame → Store → Prop} {QD : D → Store → Prop}
/-! ### comprehensions of two clauses -/
end
end DL
namespace DL.Lf
open PySem PySem.Spec PyProof.Rows L2 DL
/-! ### numbers at which a polynomial is not 0, by the program; numbers that change an end -/
noncomputable def L_with_number_2 : SM := asgF 5 (binF mulD (varF 5) (varF 2))
noncomputable def L_with_number_1 : SM := seqS (forF (rngF rng1 [binF ixD (varF 4) (varF 1)]) (tgName 6) (L_with_number_2)) (seqS (asgF 7 (binF addD (binF addD (sliF sliD (varF 4) none (some (varF 1))) (tupF [cstF (.int 0)])) (sliF sliD (varF 4) (some (binF addD (varF 1) (cstF (.int 1)))) none))) (asgG (tgDic (varF 3) (varF 7)) (binF addD (getF (varF 3) (varF 7) (cstF (.int 0))) (varF 5))))
noncomputable def E_with_number_1 : DL.Frame → M D := tupF [varF 4, varF 5]
noncomputable def T_with_number_1 : DL.Frame → M Bool := tbF (binF neD (varF 5) (cstF (.int 0)))
noncomputable def B_with_number : SM := seqS (asgF 3 (dctT)) (seqS (forF (itF (varF 0)) (tgTup [tgName 4, tgName 5]) (L_with_number_1)) (retF (calF tupleP [calF sortedX [cmpI [4, 5] 3 (tgTup [tgName 4, tgName 5]) (T_with_number_1) (E_with_number_1)]])))
noncomputable abbrev F_with_number : List D → M D := defF 8 B_with_number
noncomputable def L_numbers_beside_2 : SM := augF 4 iaddD (cstF (.int 1))
noncomputable def C_L_numbers_beside_2 : DL.Frame → M Bool := tbF (binF eqD (calF (fun xs => F_with_number (xs ++ [])) [varF 0, varF 3, varF 4]) (tupF []))
noncomputable def L_numbers_beside_1 : SM := seqS (asgF 4 (cstF (.int 0))) (seqS (whileF (C_L_numbers_beside_2) (L_numbers_beside_2)) (seqS (asgF 0 (calF (fun xs => F_with_number (xs ++ [])) [varF 0, varF 3, varF 4])) (exprF (metF "list" appD (varF 2) [varF 4]))))
noncomputable def B_numbers_beside : SM := seqS (asgF 2 (lstO [])) (seqS (forF (rngF rng1 [varF 1]) (tgName 3) (L_numbers_beside_1)) (retF (varF 2)))
noncomputable abbrev F_numbers_beside : List D → M D := defF 5 B_numbers_beside
noncomputable def L_moved_2 : SM := seqS (asgF 7 (binF addD (binF addD (sliF sliD (varF 3) none (some (varF 1))) (tupF [varF 6])) (sliF sliD (varF 3) (some (binF addD (varF 1) (cstF (.int 1)))) none))) (seqS (asgG (tgDic (varF 2) (varF 7)) (binF addD (getF (varF 2) (varF 7) (cstF (.int 0))) (binF mulD (varF 4) (varF 5)))) (asgF 5 (binF fdivD (binF mulD (varF 5) (binF subD (binF ixD (varF 3) (varF 1)) (varF 6))) (binF addD (varF 6) (cstF (.int 1))))))
noncomputable def L_moved_1 : SM := seqS (asgF 5 (cstF (.int 1))) (forF (rngF rng1 [binF addD (binF ixD (varF 3) (varF 1)) (cstF (.int 1))]) (tgName 6) (L_moved_2))
noncomputable def E_moved_1 : DL.Frame → M D := varF 8
noncomputable def T_moved_1 : DL.Frame → M Bool := tbF (binF neD (binF ixD (varF 8) (cstF (.int 1))) (cstF (.int 0)))
noncomputable def B_moved : SM := seqS (asgF 2 (dctT)) (seqS (forF (itF (varF 0)) (tgTup [tgName 3, tgName 4]) (L_moved_1)) (retF (calF (fun xs => Lb.F_minus (xs ++ [])) [calF tupleP [calF sortedX [cmpJ [8] 2 (tgName 8) (T_moved_1) (E_moved_1)]], varF 0])))
noncomputable abbrev F_moved : List D → M D := defF 9 B_moved
noncomputable def B_start_of : SM := seqS (asgF 3 (prpF [("Box", Lg.F_Box_levels)] (varF 0))) (seqS (asgF 4 (tupF [calF tupleD [sliF sliD (varF 2) none (some (varF 3))], binF ixD (varF 2) (varF 3), binF ixD (varF 2) (binF addD (varF 3) (cstF (.int 1))), varF 1])) (retF (tupF [varF 4, calF tupleD [sliF sliD (varF 2) (some (binF addD (varF 3) (cstF (.int 2)))) none]])))
noncomputable abbrev F_start_of : List D → M D := defF 5 B_start_of
noncomputable def L_changed_1 (tc tp tm tt : Tab) : SM := ifS (tbF (binF inD (varF 3) (calF (fun xs => F_unknowns_in (xs ++ [])) [varF 5, varF 4]))) (seqS (asgF 6 (calF (fun xs => F_numbers_beside (xs ++ [])) [calF (fun xs => F_moved (xs ++ [])) [varF 5, varF 3], varF 4])) (seqS (asgF 7 (binF addD (binF addD (sliF sliD (varF 6) none (some (varF 3))) (lstF [binF addD (binF ixD (varF 6) (varF 3)) (cstF (.int 1))])) (sliF sliD (varF 6) (some (binF addD (varF 3) (cstF (.int 1)))) none))) (retF (tupF [calF (fun xs => F_start_of (xs ++ [])) [varF 0, varF 1, varF 6], calF (fun xs => F_start_of (xs ++ [])) [varF 0, varF 1, varF 7]])))) (nxF)
noncomputable def B_changed (tc tp tm tt : Tab) : SM := seqS (asgF 4 (calF (fun xs => F_many_unknowns (xs ++ [])) [varF 0])) (seqS (ifS (notF (tstF (calF (fun xs => Lb.F_is_integer (xs ++ [])) [varF 3, cstF (.int 0), binF subD (varF 4) (cstF (.int 1))]))) (raiF "BadIndex" "index" (varF 3)) (nxF)) (seqS (forF (itF (calF (fun xs => F_polys_from tc tp tm tt (xs ++ [])) [varF 0, varF 1, varF 2])) (tgName 5) (L_changed_1 tc tp tm tt)) (retF (cstF .non))))
noncomputable abbrev F_changed (tc tp tm tt : Tab) : List D → M D := bodyF 8 (B_changed tc tp tm tt)
local macro_rules | `(tactic| and_intros) => `(tactic| repeat (first | with_reducible refine StpA.go ?_ | with_reducible refine StpB.go ?_ | ((with_reducible refine Ok.var ?_); refine ⟨_, rfl, ?_⟩) | ((with_reducible refine Fr.go ?_); intro fr_ e_; simp only [List.set_cons_zero, List.set_cons_succ, setAll, wipeF] at e_; subst e_) | ((with_reducible refine Ok.tgT ?_ ?_); (exact rfl)) | ((with_reducible refine Ok.tgQt ?_ ?_); (exact rfl)) | ((with_reducible refine Ok.tgQl ?_ ?_); (exact rfl)) | with_reducible refine Ok.tupP ?_ | with_reducible refine Ok.tupleP ?_ | ((with_reducible refine Ok.isi_ptu (p := true) ?_ ?_); decide +kernel) | ((with_reducible refine Ok.isi_ptu (p := false) ?_ ?_); decide +kernel) | with_reducible refine ItQ.ptu ?_ | with_reducible refine SrcQ.ptu ?_ | with_reducible refine Ok.len_p ?_ | with_reducible refine Ok.sli_tail ?_ | ((with_reducible refine OkS.aug ?_); refine ⟨_, rfl, ?_⟩) | ((with_reducible refine Ok.ix_t ?_); refine ⟨_, rfl, ?_⟩) | ((with_reducible refine Ok.ix_l ?_); refine ⟨_, rfl, ?_⟩) | ((with_reducible refine Ok.tgT ?_ ?_); exact rfl) | with_reducible refine Ok.sli_t ?_ | with_reducible refine Ok.sli_l ?_ | ((with_reducible refine Ok.mod_ii ?_ ?_); (first | decide | (simp; done) | (simp; omega))) | ((with_reducible refine Ok.add_tt ?_ ?_); (first | decide | (simp; done) | (simp; omega))) | ((with_reducible refine Ok.add_ll ?_ ?_); (first | decide | (simp; done) | (simp; omega))) | ((with_reducible refine Ok.add_ss ?_ ?_); (first | decide | (simp; done) | (simp; omega))) | ((with_reducible refine Ok.rng1 ?_ ?_); (first | decide | omega | (simp; omega))) | ((with_reducible refine Br.dt ?_ ?_); (first | assumption | exact rfl | omega | decide +kernel)) | ((with_reducible refine Br.df ?_ ?_); (first | assumption | omega | decide +kernel)) | ((with_reducible refine Br.tt ?_ ?_); (first | assumption | decide +kernel)) | ((with_reducible refine Br.ff ?_ ?_); (first | assumption | decide +kernel)) | ((with_reducible refine Ok.isi_tup (p := true) ?_ ?_); decide +kernel) | ((with_reducible refine Ok.isi_tup (p := false) ?_ ?_); decide +kernel) | ((with_reducible refine Ok.isi_int (p := true) ?_ ?_); decide +kernel) | ((with_reducible refine Ok.isi_int (p := false) ?_ ?_); decide +kernel) | ((with_reducible refine Ok.isi_str (p := true) ?_ ?_); decide +kernel) | ((with_reducible refine Ok.isi_str (p := false) ?_ ?_); decide +kernel) | ((with_reducible refine Ok.isi_lst (p := true) ?_ ?_); decide +kernel) | ((with_reducible refine Ok.isi_lst (p := false) ?_ ?_); decide +kernel) | ((with_reducible refine Ok.isi_bl (p := true) ?_ ?_); decide +kernel) | ((with_reducible refine Ok.isi_bl (p := false) ?_ ?_); decide +kernel) | ((with_reducible refine Ok.isi_non (p := true) ?_ ?_); decide +kernel) | ((with_reducible refine Ok.isi_non (p := false) ?_ ?_); decide +kernel) | ((with_reducible refine Ok.isi_ctu (p := true) ?_ ?_); decide +kernel) | ((with_reducible refine Ok.isi_ctu (p := false) ?_ ?_); decide +kernel) | ((with_reducible refine Ok.isi_emp (p := true) ?_ ?_); decide +kernel) | ((with_reducible refine Ok.isi_emp (p := false) ?_ ?_); decide +kernel)))
section
variable {S : Store} {QD : D → Store → Prop} {QS : Fl → DL.Frame → Store → Prop} {n m b : Nat} {w size : Int} {tc tp tm tt : Tab} {deep : Str} {ks : List Str} {mode : Str} {r : List Ky} {p q : Pol}
/-! the numbers -/
/-! the start -/
def startD (n : Nat) (mode : Str) (ns : List Int) : D := .tup [.tup [.tup ((ns.take n).map .int), .int (ns.getD n 0), .int (ns.getD (n + 1) 0), .str mode], .tup ((ns.drop (n + 2)).map .int)]
end
end DL.Lf
namespace DL.Lf
open PySem PySem.Spec PyProof.Rows L2 DL
/-! ### numbers that change an end, by the program -/
local macro_rules | `(tactic| and_intros) => `(tactic| repeat (first | with_reducible refine StpA.go ?_ | with_reducible refine StpB.go ?_ | ((with_reducible refine Ok.var ?_); refine ⟨_, rfl, ?_⟩) | ((with_reducible refine Fr.go ?_); intro fr_ e_; simp only [List.set_cons_zero, List.set_cons_succ, setAll, wipeF] at e_; subst e_) | ((with_reducible refine Ok.tgT ?_ ?_); (exact rfl)) | ((with_reducible refine Ok.tgQt ?_ ?_); (exact rfl)) | ((with_reducible refine Ok.tgQl ?_ ?_); (exact rfl)) | with_reducible refine Ok.tupP ?_ | with_reducible refine Ok.tupleP ?_ | ((with_reducible refine Ok.isi_ptu (p := true) ?_ ?_); decide +kernel) | ((with_reducible refine Ok.isi_ptu (p := false) ?_ ?_); decide +kernel) | with_reducible refine ItQ.ptu ?_ | with_reducible refine SrcQ.ptu ?_ | with_reducible refine Ok.len_p ?_ | with_reducible refine Ok.sli_tail ?_ | ((with_reducible refine OkS.aug ?_); refine ⟨_, rfl, ?_⟩) | ((with_reducible refine Ok.ix_t ?_); refine ⟨_, rfl, ?_⟩) | ((with_reducible refine Ok.ix_l ?_); refine ⟨_, rfl, ?_⟩) | ((with_reducible refine Ok.tgT ?_ ?_); exact rfl) | with_reducible refine Ok.sli_t ?_ | with_reducible refine Ok.sli_l ?_ | ((with_reducible refine Ok.mod_ii ?_ ?_); (first | decide | (simp; done) | (simp; omega))) | ((with_reducible refine Ok.add_tt ?_ ?_); (first | decide | (simp; done) | (simp; omega))) | ((with_reducible refine Ok.add_ll ?_ ?_); (first | decide | (simp; done) | (simp; omega))) | ((with_reducible refine Ok.add_ss ?_ ?_); (first | decide | (simp; done) | (simp; omega))) | ((with_reducible refine Ok.rng1 ?_ ?_); (first | decide | omega | (simp; omega))) | ((with_reducible refine Br.dt ?_ ?_); (first | assumption | exact rfl | omega | decide +kernel)) | ((with_reducible refine Br.df ?_ ?_); (first | assumption | omega | decide +kernel)) | ((with_reducible refine Br.tt ?_ ?_); (first | assumption | decide +kernel)) | ((with_reducible refine Br.ff ?_ ?_); (first | assumption | decide +kernel)) | ((with_reducible refine Ok.isi_tup (p := true) ?_ ?_); decide +kernel) | ((with_reducible refine Ok.isi_tup (p := false) ?_ ?_); decide +kernel) | ((with_reducible refine Ok.isi_int (p := true) ?_ ?_); decide +kernel) | ((with_reducible refine Ok.isi_int (p := false) ?_ ?_); decide +kernel) | ((with_reducible refine Ok.isi_str (p := true) ?_ ?_); decide +kernel) | ((with_reducible refine Ok.isi_str (p := false) ?_ ?_); decide +kernel) | ((with_reducible refine Ok.isi_lst (p := true) ?_ ?_); decide +kernel) | ((with_reducible refine Ok.isi_lst (p := false) ?_ ?_); decide +kernel) | ((with_reducible refine Ok.isi_bl (p := true) ?_ ?_); decide +kernel) | ((with_reducible refine Ok.isi_bl (p := false) ?_ ?_); decide +kernel) | ((with_reducible refine Ok.isi_non (p := true) ?_ ?_); decide +kernel) | ((with_reducible refine Ok.isi_non (p := false) ?_ ?_); decide +kernel) | ((with_reducible refine Ok.isi_ctu (p := true) ?_ ?_); decide +kernel) | ((with_reducible refine Ok.isi_ctu (p := false) ?_ ?_); decide +kernel) | ((with_reducible refine Ok.isi_emp (p := true) ?_ ?_); decide +kernel) | ((with_reducible refine Ok.isi_emp (p := false) ?_ ?_); decide +kernel)))
section
variable {S : Store} {QD : D → Store → Prop} {QS : Fl → DL.Frame → Store → Prop} {n m b : Nat} {w size : Int} {tc tp tm tt : Tab} {deep : Str} {ks : List Str} {mode : Str} {r : List Ky} {p q : Pol}
/-! what is told -/
def chN (n : Nat) (mode : Str) (P : List Pol) (i : Nat) : D := match P.find? fun p => decide (i ∈ uns (n + 6) p) with
  | none => .non
  | some p => .tup [startD n mode (Pl.nums (Pl.moved p i) (n + 6)), startD n mode ((Pl.nums (Pl.moved p i) (n + 6)).set i ((Pl.nums (Pl.moved p i) (n + 6)).getD i 0 + 1))]
end
end DL.Lf
namespace DL
open PySem PySem.Spec PyProof.Rows L2
/-! ### a slice of a tuple of the module -/
def sliC (x : D) (lo hi : Option Int) : M D := fun S => match x with
  | .ctu l => if HT.sIx l.length 0 lo = 0 ∧ HT.sIx l.length l.length hi = l.length then .ok (.ctu l) S else .ok (.tup (cutD l lo hi)) S
  | _ => .bad
section
variable {X : Cx} {W : WE} {a : Expr} {pos : Pos} {fa : Frame → M D} {o1 o2 : Option Expr} {f1 f2 : Option (Frame → M D)} {p2 : Pos}
end
end DL
namespace DL
open PySem PySem.Spec PyProof.Rows L2
/-! ### zip of a tuple and two lists -/
/-- the turns over what stands at three places -/
def It3 (K : PySem.W.Frag) (a b c : Addr) (xs ys zs : List V) : It :=
  ⟨fun i H => (SqT K H a xs ∧ SqL K H b ys ∧ SqL K H c zs) ∧ i < min (min xs.length ys.length) zs.length,
    fun i H v H' => ∃ T x y u, v = .ref T ∧ H T = none ∧ H' = upd H T (.tup [x, y, u]) ∧ xs[i]? = some x ∧ ys[i]? = some y ∧ zs[i]? = some u,
    fun i H => (SqT K H a xs ∧ SqL K H b ys ∧ SqL K H c zs) ∧ min (min xs.length ys.length) zs.length ≤ i⟩
section
variable {X : Cx} {W : WE} {elts : List Expr} {kk : Nat} {tpos : Pos}
/-- for .. in zip(t, l, m) -/
def iZip3 (K : PySem.W.Frag) (ta : TA) : TI := fun σ H R => ta σ H fun vs H1 => ∃ a b c xs ys zs, vs = [.ref a, .ref b, .ref c] ∧ (SqT K H1 a xs ∧ SqL K H1 b ys ∧ SqL K H1 c zs) ∧ R (It3 K a b c xs ys zs) H1
/-! in the layer -/
def zip3L : List D → List D → List D → List D
  | x :: l, y :: m, z :: k => .tup [x, y, z] :: zip3L l m k
  | _, _, _ => []
def zip3S (l : List D) : M Src := fun S => match l with
  | [.ctu l, .lst m, .lst k] => .ok (fun _ => some (zip3L l m k)) S
  | _ => .bad
end
end DL
namespace DL
open PySem PySem.Spec PyProof.Rows L2 HT
/-! ### a tuple turned about: t[::-1] -/
section
variable {prog : Program} {w : World} {A : Around} {E : Value → Shared → Prop} {s : Shared}
end
section
variable {X : Cx} {W : WE} {a : Expr} {fa : Frame → M D} {k : Nat} {p1 p2 p3 pos : Pos}
def tTurn (K : PySem.W.Frag) (te : TE) : TE := fun σ H Q => te σ H fun x H1 => ∃ a xs, x = .ref a ∧ SqT K H1 a xs ∧ ∀ p, H1 p = none → Q (.ref p) (upd H1 p (.tup xs.reverse))
def turnD (x : D) : M D := fun S => match x with
  | .tup l => .ok (.tup l.reverse) S
  | _ => .bad
end
end DL
namespace DL
open PySem PySem.Spec PyProof.Rows L2 HT
open SeqAt (shaped)
/-! ### t.count(x) of a tuple that is known; tuples of any make -/
def tyP (x : V) (H : Hp) : Prop := ∃ a o vs, x = .ref a ∧ H a = some (.frz o (.tup vs)) ∧ o.dict = none
def tyPk (d : D) : M Unit := fun S => match d with
  | .ptu _ => .ok () S
  | _ => .bad
def metP (g : D → List D → M D) (f : Frame → M D) (fs : List (Frame → M D)) : Frame → M D := fun fr => bnd (f fr) fun o => bnd (tyPk o) fun _ => bnd (seqA fs fr) fun xs => g o xs
def ptuL : D → Option (List D)
  | .ptu l => some l
  | _ => none
def cntP (d : D) (xs : List D) : M D := fun S => match xs with
  | [y] => match (ptuL d).bind pys, pyS S y with
    | some ds, some p => if shaped p = true ∧ shaped (.list ds) = true then .ok (.int (ds.countP fun z => PyData.eqv z p : Nat)) S else .bad
    | _, _ => .bad
  | _ => .bad
section
variable {X : Cx} {W : WE} {a b c e o : Expr} {pos apos cpos : Pos} {fa fb fc : Frame → M D} {es : List Expr} {fs : List (Frame → M D)} {id : String} {name : Str}
/-! a tuple of which no more is known than its items -/
def cuD : D → D
  | .ptu l => .ctu l
  | .tup l => .ctu l
  | d => d
def cuF (f : Frame → M D) : Frame → M D := fun fr => bnd (f fr) fun d => ret (cuD d)
def ctuL : D → Option (List D)
  | .ctu l => some l
  | _ => none
def addC (x y : D) : M D := fun S => match ctuL x, ctuL y with
  | some l, some m => if l.length + m.length ≤ sizeLine then .ok (.ctu (l ++ m)) S else .bad
  | _, _ => .bad
def turnC (x : D) : M D := fun S => match x with
  | .ctu l => .ok (.ctu l.reverse) S
  | _ => .bad
end
end DL
namespace DL.Pl
open PySem PySem.Spec PyProof.Rows L2 DL
/-! ### the polynomial of a formula; more unknowns ahead -/
def lix (s : Str) : Nat := LETS.idxOf s
def ofF (m k0 : Nat) : Fm → Pol
  | .num n => const m (n : Nat)
  | .lett s => unk m (k0 + lix s)
  | .neg f => minus (const m 0) (ofF m k0 f)
  | .bin op f g => if op = "+" then plus (ofF m k0 f) (ofF m k0 g) else if op = "-" then minus (ofF m k0 f) (ofF m k0 g) else times (ofF m k0 f) (ofF m k0 g)
/-! more unknowns ahead -/
def emb (k0 : Nat) (p : Pol) : Pol := p.map fun x => (List.replicate k0 0 ++ x.1, x.2)
section
variable {k0 m : Nat} {p q : Pol}
end
end DL.Pl
namespace DL.Lf
open PySem PySem.Spec PyProof.Rows L2 DL
/-! ### rows that are alike, all rows over some keys, the first shortest row -/
def K_KEYS : List Str := ["0", "1", "2", "3", "4", "5", "6", "7", "8", "9", "a", "b", "c", "d", "enter", "+", "-", "*", "neg", "swap", "down", "up", "last", "clear", "put", "get"]
def Kys : List Ky := [.dig 0, .dig 1, .dig 2, .dig 3, .dig 4, .dig 5, .dig 6, .dig 7, .dig 8, .dig 9, .lett 0, .lett 1, .lett 2, .lett 3, .enter, .plus, .minus, .times, .neg, .swap, .down, .up, .last, .clear, .put, .get]
noncomputable def B_alike (tc tp tm tt : Tab) : SM := retF (binF eqD (calF (fun xs => F_effects tc tp tm tt (xs ++ [])) [varF 0, varF 1]) (calF (fun xs => F_effects tc tp tm tt (xs ++ [])) [varF 0, varF 2]))
noncomputable abbrev F_alike (tc tp tm tt : Tab) : List D → M D := defF 3 (B_alike tc tp tm tt)
noncomputable def B_look_at_most : SM := ifS (notF (tstF (calF (fun xs => Lb.F_is_integer (xs ++ [])) [varF 0, cstF (.int 0), varF 1]))) (raiF "BadMost" "most" (varF 0)) (nxF)
noncomputable abbrev F_look_at_most : List D → M D := bodyF 2 B_look_at_most
noncomputable def E_rows_over_1 : DL.Frame → M D := binF addD (varF 4) (tupF [varF 5])
noncomputable def L_rows_over_1 : SM := asgF 2 (cmp2D [4, 5] [5] (itF (varF 2)) (tgName 4) (yesF) (itF (varF 0)) (tgName 5) (yesF) (E_rows_over_1))
noncomputable def B_rows_over : SM := seqS (asgF 2 (lstF [tupF []])) (seqS (forF (rngF rng1 [varF 1]) (tgName 3) (L_rows_over_1)) (retF (varF 2)))
noncomputable abbrev F_rows_over : List D → M D := defF 6 B_rows_over
noncomputable def L_shortest_2 (tc tp tm tt : Tab) : SM := ifS (tbF (binF eqD (calF (fun xs => F_effects tc tp tm tt (xs ++ [])) [varF 0, varF 5]) (varF 3))) (retF (varF 5)) (nxF)
noncomputable def L_shortest_1 (tc tp tm tt : Tab) : SM := forF (itF (calF (fun xs => F_rows_over (xs ++ [])) [cstF (.ctu (K_KEYS.map .str)), varF 4])) (tgName 5) (L_shortest_2 tc tp tm tt)
noncomputable def B_shortest (tc tp tm tt : Tab) : SM := seqS (exprF (calF (fun xs => F_look_at_most (xs ++ [])) [varF 2, cstF (.int 2)])) (seqS (asgF 3 (calF (fun xs => F_effects tc tp tm tt (xs ++ [])) [varF 0, varF 1])) (seqS (forF (rngF rng1 [binF addD (varF 2) (cstF (.int 1))]) (tgName 4) (L_shortest_1 tc tp tm tt)) (retF (cstF .non))))
noncomputable abbrev F_shortest (tc tp tm tt : Tab) : List D → M D := bodyF 6 (B_shortest tc tp tm tt)
def effs (n : Nat) (deep : Str) (ks : List Str) (r : List Ky) : List (Gt Pol) := K_MODES.map fun mode => effN n deep ks mode r
def effD (n : Nat) (deep : Str) (ks : List Str) (r : List Ky) : D := .lst ((effs n deep ks r).map fnd)
def lk (n : Nat) (deep : Str) (ks : List Str) (r r2 : List Ky) : Bool := eqb (effD n deep ks r) (effD n deep ks r2)
/-! effects compared -/
def pfnd (g : Gt Pol) : PyData := .tuple [.tuple (g.lv.map fun p => pd (Pl.d p)), pd (Pl.d g.kp), pd (Pl.d g.mem), .str g.way]
local macro_rules | `(tactic| and_intros) => `(tactic| repeat (first | with_reducible refine StpA.go ?_ | with_reducible refine StpB.go ?_ | ((with_reducible refine Ok.var ?_); refine ⟨_, rfl, ?_⟩) | ((with_reducible refine Fr.go ?_); intro fr_ e_; simp only [List.set_cons_zero, List.set_cons_succ, setAll, wipeF] at e_; subst e_) | ((with_reducible refine Ok.tgT ?_ ?_); (exact rfl)) | ((with_reducible refine Ok.tgQt ?_ ?_); (exact rfl)) | ((with_reducible refine Ok.tgQl ?_ ?_); (exact rfl)) | with_reducible refine Ok.tupP ?_ | with_reducible refine Ok.tupleP ?_ | ((with_reducible refine Ok.isi_ptu (p := true) ?_ ?_); decide +kernel) | ((with_reducible refine Ok.isi_ptu (p := false) ?_ ?_); decide +kernel) | with_reducible refine ItQ.ptu ?_ | with_reducible refine SrcQ.ptu ?_ | with_reducible refine Ok.len_p ?_ | with_reducible refine Ok.sli_tail ?_ | ((with_reducible refine OkS.aug ?_); refine ⟨_, rfl, ?_⟩) | ((with_reducible refine Ok.ix_t ?_); refine ⟨_, rfl, ?_⟩) | ((with_reducible refine Ok.ix_l ?_); refine ⟨_, rfl, ?_⟩) | ((with_reducible refine Ok.tgT ?_ ?_); exact rfl) | with_reducible refine Ok.sli_t ?_ | with_reducible refine Ok.sli_l ?_ | ((with_reducible refine Ok.mod_ii ?_ ?_); (first | decide | (simp; done) | (simp; omega))) | ((with_reducible refine Ok.add_tt ?_ ?_); (first | decide | (simp; done) | (simp; omega))) | ((with_reducible refine Ok.add_ll ?_ ?_); (first | decide | (simp; done) | (simp; omega))) | ((with_reducible refine Ok.add_ss ?_ ?_); (first | decide | (simp; done) | (simp; omega))) | ((with_reducible refine Ok.rng1 ?_ ?_); (first | decide | omega | (simp; omega))) | ((with_reducible refine Br.dt ?_ ?_); (first | assumption | exact rfl | omega | decide +kernel)) | ((with_reducible refine Br.df ?_ ?_); (first | assumption | omega | decide +kernel)) | ((with_reducible refine Br.tt ?_ ?_); (first | assumption | decide +kernel)) | ((with_reducible refine Br.ff ?_ ?_); (first | assumption | decide +kernel)) | ((with_reducible refine Ok.isi_tup (p := true) ?_ ?_); decide +kernel) | ((with_reducible refine Ok.isi_tup (p := false) ?_ ?_); decide +kernel) | ((with_reducible refine Ok.isi_int (p := true) ?_ ?_); decide +kernel) | ((with_reducible refine Ok.isi_int (p := false) ?_ ?_); decide +kernel) | ((with_reducible refine Ok.isi_str (p := true) ?_ ?_); decide +kernel) | ((with_reducible refine Ok.isi_str (p := false) ?_ ?_); decide +kernel) | ((with_reducible refine Ok.isi_lst (p := true) ?_ ?_); decide +kernel) | ((with_reducible refine Ok.isi_lst (p := false) ?_ ?_); decide +kernel) | ((with_reducible refine Ok.isi_bl (p := true) ?_ ?_); decide +kernel) | ((with_reducible refine Ok.isi_bl (p := false) ?_ ?_); decide +kernel) | ((with_reducible refine Ok.isi_non (p := true) ?_ ?_); decide +kernel) | ((with_reducible refine Ok.isi_non (p := false) ?_ ?_); decide +kernel) | ((with_reducible refine Ok.isi_ctu (p := true) ?_ ?_); decide +kernel) | ((with_reducible refine Ok.isi_ctu (p := false) ?_ ?_); decide +kernel) | ((with_reducible refine Ok.isi_emp (p := true) ?_ ?_); decide +kernel) | ((with_reducible refine Ok.isi_emp (p := false) ?_ ?_); decide +kernel)))
section
variable {S : Store} {QD : D → Store → Prop} {n m b : Nat} {w size : Int} {tc tp tm tt : Tab} {deep : Str} {ks : List Str} {mode : Str} {r r2 : List Ky}
end
/-! all rows of so many keys -/
def rowsO (some_ : List Ky) : Nat → List (List Ky)
  | 0 => [[]]
  | n + 1 => (rowsO some_ n).flatMap fun r => some_.map fun k => r ++ [k]
section
variable {S : Store} {QD : D → Store → Prop}
end
end DL.Lf
namespace DL.Lf
open PySem PySem.Spec PyProof.Rows L2 DL
/-! ### the first shortest row -/
def optD : Option (List Ky) → D
  | none => .non
  | some r => rowD r
def shortN (n : Nat) (deep : Str) (ks : List Str) (r : List Ky) (most : Nat) : Option (List Ky) := ((List.range' 0 (most + 1)).flatMap (rowsO Kys)).find? fun row => lk n deep ks row r
/-- what is asked for as the greatest number of keys and is none -/
def ODD : List D := [.int (-1), .int 3, .non, .bl true, .str "1", .int (10 ^ 30), .tup [.int 1], .bl false, .lst [.int 2], .emp]
local macro_rules | `(tactic| and_intros) => `(tactic| repeat (first | with_reducible refine StpA.go ?_ | with_reducible refine StpB.go ?_ | ((with_reducible refine Ok.var ?_); refine ⟨_, rfl, ?_⟩) | ((with_reducible refine Fr.go ?_); intro fr_ e_; simp only [List.set_cons_zero, List.set_cons_succ, setAll, wipeF] at e_; subst e_) | ((with_reducible refine Ok.tgT ?_ ?_); (exact rfl)) | ((with_reducible refine Ok.tgQt ?_ ?_); (exact rfl)) | ((with_reducible refine Ok.tgQl ?_ ?_); (exact rfl)) | with_reducible refine Ok.tupP ?_ | with_reducible refine Ok.tupleP ?_ | ((with_reducible refine Ok.isi_ptu (p := true) ?_ ?_); decide +kernel) | ((with_reducible refine Ok.isi_ptu (p := false) ?_ ?_); decide +kernel) | with_reducible refine ItQ.ptu ?_ | with_reducible refine SrcQ.ptu ?_ | with_reducible refine Ok.len_p ?_ | with_reducible refine Ok.sli_tail ?_ | ((with_reducible refine OkS.aug ?_); refine ⟨_, rfl, ?_⟩) | ((with_reducible refine Ok.ix_t ?_); refine ⟨_, rfl, ?_⟩) | ((with_reducible refine Ok.ix_l ?_); refine ⟨_, rfl, ?_⟩) | ((with_reducible refine Ok.tgT ?_ ?_); exact rfl) | with_reducible refine Ok.sli_t ?_ | with_reducible refine Ok.sli_l ?_ | ((with_reducible refine Ok.mod_ii ?_ ?_); (first | decide | (simp; done) | (simp; omega))) | ((with_reducible refine Ok.add_tt ?_ ?_); (first | decide | (simp; done) | (simp; omega))) | ((with_reducible refine Ok.add_ll ?_ ?_); (first | decide | (simp; done) | (simp; omega))) | ((with_reducible refine Ok.add_ss ?_ ?_); (first | decide | (simp; done) | (simp; omega))) | ((with_reducible refine Ok.rng1 ?_ ?_); (first | decide | omega | (simp; omega))) | ((with_reducible refine Br.dt ?_ ?_); (first | assumption | exact rfl | omega | decide +kernel)) | ((with_reducible refine Br.df ?_ ?_); (first | assumption | omega | decide +kernel)) | ((with_reducible refine Br.tt ?_ ?_); (first | assumption | decide +kernel)) | ((with_reducible refine Br.ff ?_ ?_); (first | assumption | decide +kernel)) | ((with_reducible refine Ok.isi_tup (p := true) ?_ ?_); decide +kernel) | ((with_reducible refine Ok.isi_tup (p := false) ?_ ?_); decide +kernel) | ((with_reducible refine Ok.isi_int (p := true) ?_ ?_); decide +kernel) | ((with_reducible refine Ok.isi_int (p := false) ?_ ?_); decide +kernel) | ((with_reducible refine Ok.isi_str (p := true) ?_ ?_); decide +kernel) | ((with_reducible refine Ok.isi_str (p := false) ?_ ?_); decide +kernel) | ((with_reducible refine Ok.isi_lst (p := true) ?_ ?_); decide +kernel) | ((with_reducible refine Ok.isi_lst (p := false) ?_ ?_); decide +kernel) | ((with_reducible refine Ok.isi_bl (p := true) ?_ ?_); decide +kernel) | ((with_reducible refine Ok.isi_bl (p := false) ?_ ?_); decide +kernel) | ((with_reducible refine Ok.isi_non (p := true) ?_ ?_); decide +kernel) | ((with_reducible refine Ok.isi_non (p := false) ?_ ?_); decide +kernel) | ((with_reducible refine Ok.isi_ctu (p := true) ?_ ?_); decide +kernel) | ((with_reducible refine Ok.isi_ctu (p := false) ?_ ?_); decide +kernel) | ((with_reducible refine Ok.isi_emp (p := true) ?_ ?_); decide +kernel) | ((with_reducible refine Ok.isi_emp (p := false) ?_ ?_); decide +kernel)))
section
variable {S : Store} {QD : D → Store → Prop} {n m b : Nat} {w size : Int} {tc tp tm tt : Tab} {deep : Str} {ks : List Str} {mode : Str} {r r2 : List Ky}
end
/-! the order of rows of two keys -/
def kix (k : Ky) : Nat := Kys.idxOf k
end DL.Lf
namespace DL.Lf
open PySem PySem.Spec PyProof.Rows L2 DL
open DL.Lb (runN)
/-! ### what level 0 is behind at most two keys: a quick walk over numbers, for all boxes -/
structure Q where
  lv : List Int
  kp : Int
  mem : Int
  w : Nat
def wq (s : Str) : Nat := if s = "held" then 1 else if s = "open" then 2 else 0
def qof (s : DL.St) : Q := ⟨s.lv, s.kp, s.mem, wq s.way⟩
def comeQ (w : Nat) (n : Int) (l : List Int) : List Int := if w = 1 then n :: l.drop 1 else n :: l.dropLast
def prQ (cp : Bool) (ls : List Int) : Ky → Q → Q
  | .dig n, s => ⟨if s.w = 2 then (10 * s.lv.getD 0 0 + (n.val : Nat)) :: s.lv.drop 1 else comeQ s.w (n.val : Nat) s.lv, s.kp, s.mem, 2⟩
  | .lett i, s => ⟨comeQ s.w (ls.getD i.val 0) s.lv, s.kp, s.mem, 0⟩
  | .enter, s => ⟨s.lv.getD 0 0 :: s.lv.dropLast, s.kp, s.mem, 1⟩
  | .clear, s => ⟨0 :: s.lv.drop 1, s.kp, s.mem, 1⟩
  | .plus, s => ⟨(s.lv.getD 1 0 + s.lv.getD 0 0) :: s.lv.drop 2 ++ [if cp = true then s.lv.getD (s.lv.length - 1) 0 else 0], s.kp, s.mem, 0⟩
  | .minus, s => ⟨(s.lv.getD 1 0 - s.lv.getD 0 0) :: s.lv.drop 2 ++ [if cp = true then s.lv.getD (s.lv.length - 1) 0 else 0], s.kp, s.mem, 0⟩
  | .times, s => ⟨(s.lv.getD 1 0 * s.lv.getD 0 0) :: s.lv.drop 2 ++ [if cp = true then s.lv.getD (s.lv.length - 1) 0 else 0], s.kp, s.mem, 0⟩
  | .neg, s => ⟨(0 - s.lv.getD 0 0) :: s.lv.drop 1, s.kp, s.mem, 0⟩
  | .swap, s => ⟨s.lv.getD 1 0 :: s.lv.getD 0 0 :: s.lv.drop 2, s.kp, s.mem, 0⟩
  | .down, s => ⟨s.lv.drop 1 ++ s.lv.take 1, s.kp, s.mem, 0⟩
  | .up, s => ⟨s.lv.drop (s.lv.length - 1) ++ s.lv.dropLast, s.kp, s.mem, 0⟩
  | .last, s => ⟨comeQ s.w s.kp s.lv, s.kp, s.mem, 0⟩
  | .put, s => ⟨s.lv, s.kp, s.lv.getD 0 0, 0⟩
  | .get, s => ⟨comeQ s.w s.mem s.lv, s.kp, s.mem, 0⟩
/-- which keys the box keeps at -/
def kbq (a b c d : Bool) : Ky → Bool
  | .times => a | .plus => b | .minus => c | .neg => d | _ => false
def stepQ (cp a b c d : Bool) (ls : List Int) (k : Ky) (s : Q) : Q := prQ cp ls k ⟨s.lv, if kbq a b c d k = true then s.lv.getD 0 0 else s.kp, s.mem, s.w⟩
def runQ (cp a b c d : Bool) (ls : List Int) : List Ky → Q → Q
  | [], s => s
  | k :: r, s => runQ cp a b c d ls r (stepQ cp a b c d ls k s)
/-! what does not lean on the first numbers -/
inductive Sm
  | const (c : Int) | lett (i : Fin 4) | nlett (i : Fin 4)
  deriving DecidableEq
def isSign : Ky → Bool
  | .plus => true | .minus => true | .times => true | _ => false
def isTurn : Ky → Bool
  | .times => true | .swap => true | .down => true | .up => true | _ => false
/-- u: the deepest becomes nought; z: and there are two levels -/
def sm (u z : Bool) : List Ky → Option Sm
  | [.dig d] => some (.const (d.val : Nat))
  | [.lett i] => some (.lett i)
  | [.clear] => some (.const 0)
  | [.dig a, .dig b] => some (.const (10 * (a.val : Nat) + (b.val : Nat)))
  | [_, .dig d] => some (.const (d.val : Nat))
  | [_, .lett i] => some (.lett i)
  | [_, .clear] => some (.const 0)
  | [.dig d, .enter] => some (.const (d.val : Nat))
  | [.dig d, .put] => some (.const (d.val : Nat))
  | [.dig d, .neg] => some (.const (0 - (d.val : Nat)))
  | [.lett i, .enter] => some (.lett i)
  | [.lett i, .put] => some (.lett i)
  | [.lett i, .neg] => some (.nlett i)
  | [.clear, .enter] => some (.const 0)
  | [.clear, .put] => some (.const 0)
  | [.clear, .neg] => some (.const 0)
  | [.enter, .minus] => some (.const 0)
  | [.dig d, .times] => if d = 0 then some (.const 0) else none
  | [.clear, .times] => some (.const 0)
  | [k, j] => if isSign k && ((u && decide (j = .up)) || (u && z && isTurn j)) then some (.const 0) else none
  | _ => none
def lsQ : List Int := [1000, 1001, 1002, 1003]
def q1 (n : Nat) : Q := ⟨[2, 3, 5, 7, 11, 13].take n, 17, 19, 0⟩
def q2 (n : Nat) : Q := ⟨[101, 203, 307, 409, 511, 613].take n, 717, 819, 0⟩
def rows012 : List (List Ky) := (rowsO Kys 0 ++ rowsO Kys 1) ++ rowsO Kys 2
def chk (n : Nat) (cp a b c d : Bool) : Bool := rows012.all fun r => (sm (!cp) (decide (n = 2)) r).isSome || decide ((runQ cp a b c d lsQ r (q1 n)).lv.getD 0 0 ≠ (runQ cp a b c d lsQ r (q2 n)).lv.getD 0 0)
def bls : List Bool := [true, false]
def chkN (n : Nat) : Bool := bls.all fun cp => bls.all fun a => bls.all fun b => bls.all fun c => bls.all fun d => chk n cp a b c d
/-- level 0 behind a row, as a polynomial -/
def lev0 (n : Nat) (deep : Str) (ks : List Str) (r : List Ky) : Pol := (effN n deep ks "free" r).lv.getD 0 []
def smN (n : Nat) (deep : Str) (r : List Ky) : Option Sm := sm (!decide (deep = "copy")) (decide (n = 2)) r
def SmP (m k0 : Nat) : Sm → Pol
  | .const c => Pl.const m c
  | .lett i => Pl.unk m (k0 + i.val)
  | .nlett i => Pl.minus (Pl.const m 0) (Pl.unk m (k0 + i.val))
end DL.Lf
namespace DL.Lf
open PySem PySem.Spec PyProof.Rows L2 DL
section
variable {m : Nat} {deep : Str} {ks : List Str} {l : List Pol} {s : Gt Pol} {k : Ky}
abbrev aF (m : Nat) : Ari := fA 0 m [] [] [] []
def prP (m : Nat) (deep : Str) (ks : List Str) (l : List Pol) (k : Ky) (s : Gt Pol) : Gt Pol := (aF m).pressN deep ks l k s
end
section
variable {n : Nat} {deep : Str} {ks : List Str}
end
end DL.Lf
namespace DL.Lf
open PySem PySem.Spec PyProof.Rows L2 DL
/-! ### the least row of a formula -/
def mt (n : Nat) (deep : Str) (P : Pol) (r : List Ky) : Bool := match smN n deep r with
  | some q => decide (SmP 4 0 q = P)
  | none => false
def rowsTo (most : Nat) : List (List Ky) := (List.range' 0 (most + 1)).flatMap (rowsO Kys)
def leastL (n : Nat) (deep : Str) (P : Pol) (most : Nat) : Option (List Ky) := (rowsTo most).find? (mt n deep P)
def sq1 (k : Nat) : Sm := if k < 10 then .const (k : Nat) else .lett (Fin.ofNat 4 (k - 10))
def sq2 (k : Nat) : Sm := if k < 10 then .const (0 - (k : Nat)) else .nlett (Fin.ofNat 4 (k - 10))
def T1 : List (Sm × List Ky) := (List.range' 0 14).map fun k => (sq1 k, [Kys.getD k .plus])
def T2 : List (Sm × List Ky) := (List.range' 0 14).map fun k => (sq2 k, [Kys.getD k .plus, .neg])
def T3 : List (Sm × List Ky) := (List.range' 10 90).map fun k => (.const (k : Nat), [.dig (Fin.ofNat 10 (k / 10)), .dig (Fin.ofNat 10 (k % 10))])
def TT3 (most : Nat) : List (Sm × List Ky) := (if 0 < most then T1 else []) ++ (if 1 < most then T2 ++ T3 else [])
def dueL (P : Pol) (most : Nat) : Option (List Ky) := ((TT3 most).find? fun x => decide (SmP 4 0 x.1 = P)).map (·.2)
def Good : List Sm := ((List.range' 0 109).map fun k => .const ((k : Nat) - 9)) ++ (List.ofFn Sm.lett) ++ (List.ofFn Sm.nlett)
def sv : Sm → Int
  | .const c => c
  | .lett i => 1000 + (i.val : Nat)
  | .nlett i => 0 - (1000 + (i.val : Nat))
end DL.Lf
namespace DL.Lb
open PySem PySem.Spec PyProof.Rows L2 DL
local macro_rules | `(tactic| and_intros) => `(tactic| repeat (first | with_reducible refine StpA.go ?_ | with_reducible refine StpB.go ?_ | ((with_reducible refine Ok.var ?_); refine ⟨_, rfl, ?_⟩) | ((with_reducible refine Fr.go ?_); intro fr_ e_; simp only [List.set_cons_zero, List.set_cons_succ, setAll, wipeF] at e_; subst e_) | with_reducible refine Ok.sli_tail ?_ | ((with_reducible refine OkS.aug ?_); refine ⟨_, rfl, ?_⟩) | ((with_reducible refine Ok.ix_t ?_); refine ⟨_, rfl, ?_⟩) | ((with_reducible refine Ok.ix_l ?_); refine ⟨_, rfl, ?_⟩) | ((with_reducible refine Ok.tgT ?_ ?_); exact rfl) | with_reducible refine Ok.sli_t ?_ | with_reducible refine Ok.sli_l ?_ | ((with_reducible refine Ok.mod_ii ?_ ?_); (first | decide | (simp; done) | (simp; omega))) | ((with_reducible refine Ok.add_tt ?_ ?_); (first | decide | (simp; done) | (simp; omega))) | ((with_reducible refine Ok.add_ll ?_ ?_); (first | decide | (simp; done) | (simp; omega))) | ((with_reducible refine Ok.add_ss ?_ ?_); (first | decide | (simp; done) | (simp; omega))) | ((with_reducible refine Ok.rng1 ?_ ?_); (first | decide | omega | (simp; omega))) | ((with_reducible refine Br.dt ?_ ?_); (first | assumption | exact rfl | omega | decide +kernel)) | ((with_reducible refine Br.df ?_ ?_); (first | assumption | omega | decide +kernel)) | ((with_reducible refine Br.tt ?_ ?_); (first | assumption | decide +kernel)) | ((with_reducible refine Br.ff ?_ ?_); (first | assumption | decide +kernel)) | ((with_reducible refine Ok.isi_tup (p := true) ?_ ?_); decide +kernel) | ((with_reducible refine Ok.isi_tup (p := false) ?_ ?_); decide +kernel) | ((with_reducible refine Ok.isi_int (p := true) ?_ ?_); decide +kernel) | ((with_reducible refine Ok.isi_int (p := false) ?_ ?_); decide +kernel) | ((with_reducible refine Ok.isi_str (p := true) ?_ ?_); decide +kernel) | ((with_reducible refine Ok.isi_str (p := false) ?_ ?_); decide +kernel) | ((with_reducible refine Ok.isi_lst (p := true) ?_ ?_); decide +kernel) | ((with_reducible refine Ok.isi_lst (p := false) ?_ ?_); decide +kernel) | ((with_reducible refine Ok.isi_bl (p := true) ?_ ?_); decide +kernel) | ((with_reducible refine Ok.isi_bl (p := false) ?_ ?_); decide +kernel) | ((with_reducible refine Ok.isi_non (p := true) ?_ ?_); decide +kernel) | ((with_reducible refine Ok.isi_non (p := false) ?_ ?_); decide +kernel) | ((with_reducible refine Ok.isi_ctu (p := true) ?_ ?_); decide +kernel) | ((with_reducible refine Ok.isi_ctu (p := false) ?_ ?_); decide +kernel) | ((with_reducible refine Ok.isi_emp (p := true) ?_ ?_); decide +kernel) | ((with_reducible refine Ok.isi_emp (p := false) ?_ ?_); decide +kernel)))
/-! ### formulas drawn -/
noncomputable def B_x_formula (self : List D → M D) : SM := seqS (asgF 2 (iteF (tbF (binF gtD (varF 1) (cstF (.int 0)))) (calF (fun xs => F_x_draw (xs ++ [])) [varF 0, cstF (.int 5)]) (cstF (.int 0)))) (seqS (ifS (tbF (binF eqD (varF 2) (cstF (.int 0)))) (retF (calF (fun xs => F_x_one (xs ++ [])) [varF 0, lstF [cstF (.str "a"), cstF (.str "b"), cstF (.str "c"), cstF (.str "d"), calF (fun xs => F_x_draw (xs ++ [])) [varF 0, cstF (.int 10)], calF (fun xs => F_x_draw (xs ++ [])) [varF 0, cstF (.int 100)], cstF (.int 0)]])) (nxF)) (seqS (ifS (tbF (binF eqD (varF 2) (cstF (.int 1)))) (retF (tupF [cstF (.str "neg"), calF (fun xs => self (xs ++ [])) [varF 0, binF subD (varF 1) (cstF (.int 1))]])) (nxF)) (seqS (asgF 3 (calF (fun xs => F_x_draw (xs ++ [])) [varF 0, varF 1])) (seqS (asgF 4 (calF (fun xs => self (xs ++ [])) [varF 0, varF 3])) (retF (tupF [calF (fun xs => F_x_one (xs ++ [])) [varF 0, lstF [cstF (.str "+"), cstF (.str "-"), cstF (.str "*")]], varF 4, calF (fun xs => self (xs ++ [])) [varF 0, binF subD (binF subD (varF 1) (cstF (.int 1))) (varF 3)]]))))))
noncomputable def F_x_formula : Nat → List D → M D
  | 0 => fun _ => bad
  | k + 1 => defF 5 (B_x_formula (F_x_formula k))
theorem Ok.formula {n m : Nat} : ∀ (k room : Nat) {q : Nat} {S : Store} {Q : D → Store → Prop}, room < k → room ≤ 6 → Dk n m q S → 10 * room + 7 ≤ q → (∀ (f : Fm) S', f.ok → f.ops ≤ room → Dk n m (q - (10 * room + 7)) S' → Keep n m S S' → Q f.d S') → Ok (F_x_formula k [.ob n, .int (room : Nat)] S) Q
  | 0, _, _, _, _, h, _, _, _, _ => absurd h (Nat.not_lt_zero _)
  | k + 1, room, q, S, Q, hk, h6, dk, hb, h => by
    unfold F_x_formula
    with_reducible refine Ok.def_ ?_
    simp only [frame0, List.map_cons, List.map_nil, List.length_cons, List.length_nil, Nat.reduceAdd, Nat.reduceSub, Nat.zero_add, List.reduceReplicate, List.cons_append, List.nil_append]
    unfold B_x_formula
    and_intros
    refine Br.spd (fun c => ?_) (fun c => ?_)
    · obtain ⟨rm, rfl⟩ : ∃ z, room = z + 1 := ⟨room - 1, by omega⟩
      and_intros
      refine Ok.draw dk (by omega) (by decide) (by decide) ?_
      intro way S1 w0 w1 dk1 k1
      and_intros
      refine Br.spd (fun c0 => ?_) (fun c0 => ?_)
      · and_intros
        refine Ok.draw dk1 (by omega) (by decide) (by decide) ?_
        intro a S2 a0 a1 dk2 k2
        and_intros
        refine Ok.draw dk2 (by omega) (by decide) (by decide) ?_
        intro b S3 b0 b1 dk3 k3
        and_intros
        refine Ok.one dk3 (by omega) (.inl rfl) (by simp) (by simp) ?_
        intro x S4 hx dk4 k4
        and_intros
        obtain ⟨a, rfl⟩ : ∃ z : Nat, a = z := ⟨a.toNat, by omega⟩
        obtain ⟨b, rfl⟩ : ∃ z : Nat, b = z := ⟨b.toNat, by omega⟩
        have fin : ∀ f : Fm, x = f.d → f.ok → f.ops = 0 → Q x S4 := fun f e ok z => by
          subst e
          exact h f S4 ok (by omega) (dk4.mono (by omega)) (((k1.trans k2).trans k3).trans k4)
        simp only [List.mem_cons, List.not_mem_nil, or_false] at hx
        rcases hx with rfl | rfl | rfl | rfl | rfl | rfl | rfl
        · exact fin (.lett "a") rfl (by show _ ∈ LETS; decide +kernel) rfl
        · exact fin (.lett "b") rfl (by show _ ∈ LETS; decide +kernel) rfl
        · exact fin (.lett "c") rfl (by show _ ∈ LETS; decide +kernel) rfl
        · exact fin (.lett "d") rfl (by show _ ∈ LETS; decide +kernel) rfl
        · exact fin (.num a) rfl (by show a < 100; omega) rfl
        · exact fin (.num b) rfl (by show b < 100; omega) rfl
        · exact fin (.num 0) rfl (by show 0 < 100; decide) rfl
      · and_intros
        refine Br.spd (fun c1 => ?_) (fun c1 => ?_)
        · and_intros
          have e : (((rm + 1 : Nat) : Int) - 1) = (rm : Nat) := by omega
          rw [e]
          refine Ok.formula k rm (by omega) (by omega) dk1 (by omega) ?_
          intro f S2 ok ho dk2 k2
          and_intros
          exact h (.neg f) S2 ok (by simp only [Fm.ops]; omega) (dk2.mono (by omega)) (k1.trans k2)
        · and_intros
          refine Ok.draw dk1 (by omega) (by omega) (by omega) ?_
          intro left S2 l0 l1 dk2 k2
          obtain ⟨left, rfl⟩ : ∃ z : Nat, left = z := ⟨left.toNat, by omega⟩
          and_intros
          refine Ok.formula k left (by omega) (by omega) dk2 (by omega) ?_
          intro f S3 ok ho dk3 k3
          and_intros
          refine Ok.one dk3 (by omega) (.inl rfl) (by simp) (by simp) ?_
          intro x S4 hx dk4 k4
          obtain ⟨op, rfl, hop⟩ : ∃ op : Str, x = .str op ∧ op ∈ OPS := by
            simp only [List.mem_cons, List.not_mem_nil, or_false] at hx
            rcases hx with rfl | rfl | rfl
            · exact ⟨_, rfl, by decide +kernel⟩
            · exact ⟨_, rfl, by decide +kernel⟩
            · exact ⟨_, rfl, by decide +kernel⟩
          and_intros
          have e : (((rm + 1 : Nat) : Int) - 1 - (left : Nat)) = ((rm - left : Nat) : Int) := by omega
          rw [e]
          refine Ok.formula k (rm - left) (by omega) (by omega) dk4 (by omega) ?_
          intro g S5 ok2 ho2 dk5 k5
          and_intros
          exact h (.bin op f g) S5 ⟨hop, ok, ok2⟩ (by simp only [Fm.ops]; omega) (dk5.mono (by omega)) ((((k1.trans k2).trans k3).trans k4).trans k5)
    · and_intros
      have dk1 := dk
      have k1 : Keep n m S S := Keep.refl
      refine Ok.draw dk1 (by omega) (by decide) (by decide) ?_
      intro a S2 a0 a1 dk2 k2
      and_intros
      refine Ok.draw dk2 (by omega) (by decide) (by decide) ?_
      intro b S3 b0 b1 dk3 k3
      and_intros
      refine Ok.one dk3 (by omega) (.inl rfl) (by simp) (by simp) ?_
      intro x S4 hx dk4 k4
      and_intros
      obtain ⟨a, rfl⟩ : ∃ z : Nat, a = z := ⟨a.toNat, by omega⟩
      obtain ⟨b, rfl⟩ : ∃ z : Nat, b = z := ⟨b.toNat, by omega⟩
      have fin : ∀ f : Fm, x = f.d → f.ok → f.ops = 0 → Q x S4 := fun f e ok z => by
        subst e
        exact h f S4 ok (by omega) (dk4.mono (by omega)) (((k1.trans k2).trans k3).trans k4)
      simp only [List.mem_cons, List.not_mem_nil, or_false] at hx
      rcases hx with rfl | rfl | rfl | rfl | rfl | rfl | rfl
      · exact fin (.lett "a") rfl (by show _ ∈ LETS; decide +kernel) rfl
      · exact fin (.lett "b") rfl (by show _ ∈ LETS; decide +kernel) rfl
      · exact fin (.lett "c") rfl (by show _ ∈ LETS; decide +kernel) rfl
      · exact fin (.lett "d") rfl (by show _ ∈ LETS; decide +kernel) rfl
      · exact fin (.num a) rfl (by show a < 100; omega) rfl
      · exact fin (.num b) rfl (by show b < 100; omega) rfl
      · exact fin (.num 0) rfl (by show 0 < 100; decide) rfl
/-! ### the law -/
def even : Fm := .bin "*" (.bin "+" (.bin "-" (.lett "a") (.num 1)) (.bin "-" (.lett "b") (.num 2))) (.bin "+" (.bin "-" (.lett "c") (.num 3)) (.lett "d"))
end DL.Lb
namespace DL.Lf
open PySem PySem.Spec PyProof.Rows L2 DL
/-! ### the polynomial of a formula by the program, the least row -/
noncomputable def B_poly_of (tc tp tm tt : Tab) (self : List D → M D) : SM := seqS (ifS (tstF (unF (isiD "int") (varF 0))) (retF (mtdF "constant" tc (varF 1) [varF 0])) (nxF)) (seqS (ifS (tstF (unF (isiD "str") (varF 0))) (retF (binF ixD (varF 2) (metF "str" sixD (cstF (.str "abcd")) [varF 0]))) (nxF)) (seqS (asgF 3 (calF (fun xs => self (xs ++ [])) [binF ixD (varF 0) (cstF (.int 1)), varF 1, varF 2])) (seqS (ifS (tbF (binF eqD (binF ixD (varF 0) (cstF (.int 0))) (cstF (.str "neg")))) (retF (mtdF "minus" tm (varF 1) [mtdF "constant" tc (varF 1) [cstF (.int 0)], varF 3])) (nxF)) (seqS (asgF 4 (calF (fun xs => self (xs ++ [])) [binF ixD (varF 0) (cstF (.int 2)), varF 1, varF 2])) (seqS (ifS (tbF (binF eqD (binF ixD (varF 0) (cstF (.int 0))) (cstF (.str "+")))) (retF (mtdF "plus" tp (varF 1) [varF 3, varF 4])) (nxF)) (retF (iteF (tbF (binF eqD (binF ixD (varF 0) (cstF (.int 0))) (cstF (.str "-")))) (mtdF "minus" tm (varF 1) [varF 3, varF 4]) (mtdF "times" tt (varF 1) [varF 3, varF 4]))))))))
noncomputable def F_poly_of (tc tp tm tt : Tab) : Nat → List D → M D
  | 0 => fun _ => bad
  | k + 1 => defF 5 (B_poly_of tc tp tm tt (F_poly_of tc tp tm tt k))
noncomputable def B_due_of (tc tp tm tt : Tab) : SM := retF (calF (fun xs => F_poly_of tc tp tm tt 20 (xs ++ [])) [varF 1, makF "Formal" (fun xs => F_Formal_init (xs ++ [])) [calF (fun xs => F_many_unknowns (xs ++ [])) [varF 0]], fldF ["Machine"] "keyed" (calF (fun xs => F_first_machine (xs ++ [])) [varF 0, cstF (.str "free")])])
noncomputable abbrev F_due_of (tc tp tm tt : Tab) : List D → M D := defF 2 (B_due_of tc tp tm tt)
noncomputable def L_least_row_2 (tc tp tm tt : Tab) : SM := ifS (tbF (binF eqD (binF ixD (binF ixD (calF (fun xs => F_effect tc tp tm tt (xs ++ [])) [varF 0, cstF (.str "free"), varF 5]) (cstF (.int 0))) (cstF (.int 0))) (varF 3))) (retF (varF 5)) (nxF)
noncomputable def L_least_row_1 (tc tp tm tt : Tab) : SM := forF (itF (calF (fun xs => F_rows_over (xs ++ [])) [cstF (.ctu (K_KEYS.map .str)), varF 4])) (tgName 5) (L_least_row_2 tc tp tm tt)
noncomputable def B_least_row (tc tp tm tt : Tab) : SM := seqS (exprF (calF (fun xs => F_look_at_most (xs ++ [])) [varF 2, cstF (.int 2)])) (seqS (asgF 3 (calF (fun xs => F_due_of tc tp tm tt (xs ++ [])) [varF 0, varF 1])) (seqS (forF (rngF rng1 [binF addD (varF 2) (cstF (.int 1))]) (tgName 4) (L_least_row_1 tc tp tm tt)) (retF (cstF .non))))
noncomputable abbrev F_least_row (tc tp tm tt : Tab) : List D → M D := bodyF 6 (B_least_row tc tp tm tt)
local macro_rules | `(tactic| and_intros) => `(tactic| repeat (first | with_reducible refine StpA.go ?_ | with_reducible refine StpB.go ?_ | ((with_reducible refine Ok.var ?_); refine ⟨_, rfl, ?_⟩) | ((with_reducible refine Fr.go ?_); intro fr_ e_; simp only [List.set_cons_zero, List.set_cons_succ, setAll, wipeF] at e_; subst e_) | ((with_reducible refine Ok.tgT ?_ ?_); (exact rfl)) | ((with_reducible refine Ok.tgQt ?_ ?_); (exact rfl)) | ((with_reducible refine Ok.tgQl ?_ ?_); (exact rfl)) | with_reducible refine Ok.tupP ?_ | with_reducible refine Ok.tupleP ?_ | ((with_reducible refine Ok.isi_ptu (p := true) ?_ ?_); decide +kernel) | ((with_reducible refine Ok.isi_ptu (p := false) ?_ ?_); decide +kernel) | with_reducible refine ItQ.ptu ?_ | with_reducible refine SrcQ.ptu ?_ | with_reducible refine Ok.len_p ?_ | with_reducible refine Ok.sli_tail ?_ | ((with_reducible refine OkS.aug ?_); refine ⟨_, rfl, ?_⟩) | ((with_reducible refine Ok.ix_t ?_); refine ⟨_, rfl, ?_⟩) | ((with_reducible refine Ok.ix_l ?_); refine ⟨_, rfl, ?_⟩) | ((with_reducible refine Ok.tgT ?_ ?_); exact rfl) | with_reducible refine Ok.sli_t ?_ | with_reducible refine Ok.sli_l ?_ | ((with_reducible refine Ok.mod_ii ?_ ?_); (first | decide | (simp; done) | (simp; omega))) | ((with_reducible refine Ok.add_tt ?_ ?_); (first | decide | (simp; done) | (simp; omega))) | ((with_reducible refine Ok.add_ll ?_ ?_); (first | decide | (simp; done) | (simp; omega))) | ((with_reducible refine Ok.add_ss ?_ ?_); (first | decide | (simp; done) | (simp; omega))) | ((with_reducible refine Ok.rng1 ?_ ?_); (first | decide | omega | (simp; omega))) | ((with_reducible refine Br.dt ?_ ?_); (first | assumption | exact rfl | omega | decide +kernel)) | ((with_reducible refine Br.df ?_ ?_); (first | assumption | omega | decide +kernel)) | ((with_reducible refine Br.tt ?_ ?_); (first | assumption | decide +kernel)) | ((with_reducible refine Br.ff ?_ ?_); (first | assumption | decide +kernel)) | ((with_reducible refine Ok.isi_tup (p := true) ?_ ?_); decide +kernel) | ((with_reducible refine Ok.isi_tup (p := false) ?_ ?_); decide +kernel) | ((with_reducible refine Ok.isi_int (p := true) ?_ ?_); decide +kernel) | ((with_reducible refine Ok.isi_int (p := false) ?_ ?_); decide +kernel) | ((with_reducible refine Ok.isi_str (p := true) ?_ ?_); decide +kernel) | ((with_reducible refine Ok.isi_str (p := false) ?_ ?_); decide +kernel) | ((with_reducible refine Ok.isi_lst (p := true) ?_ ?_); decide +kernel) | ((with_reducible refine Ok.isi_lst (p := false) ?_ ?_); decide +kernel) | ((with_reducible refine Ok.isi_bl (p := true) ?_ ?_); decide +kernel) | ((with_reducible refine Ok.isi_bl (p := false) ?_ ?_); decide +kernel) | ((with_reducible refine Ok.isi_non (p := true) ?_ ?_); decide +kernel) | ((with_reducible refine Ok.isi_non (p := false) ?_ ?_); decide +kernel) | ((with_reducible refine Ok.isi_ctu (p := true) ?_ ?_); decide +kernel) | ((with_reducible refine Ok.isi_ctu (p := false) ?_ ?_); decide +kernel) | ((with_reducible refine Ok.isi_emp (p := true) ?_ ?_); decide +kernel) | ((with_reducible refine Ok.isi_emp (p := false) ?_ ?_); decide +kernel)))
section
variable {S : Store} {QD : D → Store → Prop} {n a b : Nat} {w size : Int} {tc tp tm tt : Tab} {deep : Str} {ks : List Str} {r : List Ky}
end
end DL.Lf
namespace DL.Lf
open PySem PySem.Spec PyProof.Rows L2 DL
/-! ### plain rows, pressed on polynomials -/
def kdig (n : Nat) : List Ky := if n < 10 then [.dig (Fin.ofNat 10 n)] else [.dig (Fin.ofNat 10 (n / 10)), .dig (Fin.ofNat 10 (n % 10))]
def klett (s : Str) : Ky := .lett (Fin.ofNat 4 (Pl.lix s))
def isDg : Ky → Bool
  | .dig _ => true
  | _ => false
def kjoin (a b : List Ky) : List Ky := if isDg (a.getLastD .plus) && isDg (b.headD .plus) then a ++ (.enter :: b) else a ++ b
def ksign (op : Str) : Ky := if op = "+" then .plus else if op = "-" then .minus else .times
def krow : Fm → List Ky
  | .num n => kdig n
  | .lett s => [klett s]
  | .neg f => krow f ++ [.neg]
  | .bin op f g => if g.needs > f.needs then kjoin (krow g) (krow f) ++ (if op = "-" then [.swap, .minus] else [ksign op]) else kjoin (krow f) (krow g) ++ [ksign op]
theorem digs_k : ∀ n : Nat, n < 100 → digs n = (kdig n).map Ky.s := by decide +kernel
theorem klett_s : ∀ s ∈ LETS, (klett s).s = s := by decide +kernel
theorem isDg_s : ∀ k : Ky, isD k.s = isDg k := by
  have h : ∀ k ∈ Ky.all, isD k.s = isDg k := by decide +kernel
  exact fun k => h k k.mem
theorem ksign_s : ∀ op ∈ OPS, (ksign op).s = op := by decide +kernel
theorem kdig_ne (n : Nat) : kdig n ≠ [] := by unfold kdig; split <;> simp
theorem krow_ne : ∀ f : Fm, krow f ≠ []
  | .num n => kdig_ne n
  | .lett s => by simp [krow]
  | .neg f => by simp [krow]
  | .bin op f g => by
    unfold krow
    split
    · intro h
      have := (List.append_eq_nil_iff.mp h).2
      split at this <;> cases this
    · simp
theorem getLastD_map {a : List Ky} (h : a ≠ []) : (a.map Ky.s).getLastD "" = (a.getLastD .plus).s := by
  rw [List.getLastD_eq_getLast?, List.getLastD_eq_getLast?, List.getLast?_map]
  cases e : a.getLast? with
  | none => exact absurd (List.getLast?_eq_none_iff.mp e) h
  | some x => rfl
theorem headD_map {a : List Ky} (h : a ≠ []) : (a.map Ky.s).headD "" = (a.headD .plus).s := by
  cases a with
  | nil => exact absurd rfl h
  | cons x a => rfl
theorem kjoin_s {a b : List Ky} (ha : a ≠ []) (hb : b ≠ []) : joinL (a.map Ky.s) (b.map Ky.s) = (kjoin a b).map Ky.s := by
  unfold joinL kjoin
  rw [getLastD_map ha, headD_map hb, isDg_s, isDg_s]
  split
  · rw [List.map_append, List.map_cons, List.append_assoc]
    rfl
  · rw [List.map_append]
theorem krow_s : ∀ f : Fm, f.ok → f.row = (krow f).map Ky.s
  | .num n, h => digs_k n h
  | .lett s, h => by
    show [s] = [(klett s).s]
    rw [klett_s s h]
  | .neg f, h => by
    show f.row ++ [_] = (krow f ++ [Ky.neg]).map Ky.s
    rw [krow_s f h, List.map_append]
    rfl
  | .bin op f g, h => by
    have h1 := krow_s f h.2.1
    have h2 := krow_s g h.2.2
    have hs := ksign_s op h.1
    unfold Fm.row krow
    rw [h1, h2, kjoin_s (krow_ne _) (krow_ne _), kjoin_s (krow_ne _) (krow_ne _)]
    split
    · split
      · rw [List.map_append]; rfl
      · rw [List.map_append, List.map_cons, hs]; rfl
    · rw [List.map_append, List.map_cons, hs]; rfl
theorem krow_row {f : Fm} (h : f.ok) : .tup (f.row.map .str) = rowD (krow f) := by rw [krow_s f h]; rfl
/-- the leaf that is keyed in first -/
def fl : Fm → Fm
  | .num n => .num n
  | .lett s => .lett s
  | .neg f => fl f
  | .bin _ f g => if g.needs > f.needs then fl g else fl f
def isNum : Fm → Bool
  | .num _ => true
  | _ => false
/-! what a row works out, the first leaf being v -/
def opP (op : Str) (p q : Pol) : Pol := if op = "+" then Pl.plus p q else if op = "-" then Pl.minus p q else Pl.times p q
def gF (m k0 : Nat) (v : Pol) : Fm → Pol
  | .num _ => v
  | .lett _ => v
  | .neg f => Pl.minus (Pl.const m 0) (gF m k0 v f)
  | .bin op f g => if g.needs > f.needs then opP op (Pl.ofF m k0 f) (gF m k0 v g) else opP op (gF m k0 v f) (Pl.ofF m k0 g)
structure Sm2 (m : Nat) (v : Pol) : Prop where
  cn : Pl.Cn m v
  len : v.length ≤ 3
  nm : Pl.nm v < 400
  dg : Pl.Dg 1 v
/-- what stands on a level -/
structure Pg (m : Nat) (v : Pol) : Prop where
  cn : Pl.Cn m v
  len : v.length ≤ 192
  nm : Pl.nm v < 10 ^ 20
  dg : Pl.Dg (8 : Nat) v
structure Bd (m k : Nat) (v : Pol) : Prop where
  cn : Pl.Cn m v
  len : v.length ≤ 3 * 2 ^ k
  nm : Pl.nm v < 400 ^ (k + 1)
  dg : Pl.Dg ((k + 1 : Nat) : Int) v
end DL.Lf
namespace DL.Lf
open PySem PySem.Spec PyProof.Rows L2 DL
/-! ### plain rows work out their formulas, on polynomials -/
section
variable {A : Ari} {deep : Str} {ks : List Str} {ls : List A.N}
end
structure S1 (m : Nat) (v : Pol) : Prop where
  cn : Pl.Cn m v
  len : v.length ≤ 1
  nm : Pl.nm v ≤ 1
  dg : Pl.Dg 1 v
def tens (m : Nat) (x : Pol) (d : Nat) : Pol := Pl.plus (Pl.times (Pl.const m 10) x) (Pl.const m (d : Nat))
/-- the number that comes in first, what lies beneath it then -/
def ent (n : Nat) (s : Gt Pol) (f : Fm) : Pol := match fl f with
  | .num j => if s.way = "open" then (if j < 10 then tens (n + 6) (s.lv.getD 0 []) j else tens (n + 6) (tens (n + 6) (s.lv.getD 0 []) (j / 10)) (j % 10)) else Pl.const (n + 6) (j : Nat)
  | g => Pl.ofF (n + 6) (n + 2) g
def rst (s : Gt Pol) (f : Fm) : List Pol := if s.way = "held" ∨ (s.way = "open" ∧ isNum (fl f) = true) then s.lv.drop 1 else s.lv.dropLast
structure Res (n : Nat) (v : Pol) (rs : List Pol) (nd : Int) (dg : Bool) (s : Gt Pol) : Prop where
  len : s.lv.length = n
  top : s.lv.getD 0 [] = v
  rest : ∀ i : Nat, (i : Int) + nd < (n : Nat) → s.lv.getD (i + 1) [] = rs.getD i []
  way : s.way = if dg = true then "open" else "free"
section
variable {w : Int} {n : Nat} {tc tp tm tt : Tab} {deep : Str} {ks : List Str}
/-- one key -/
abbrev pk (w : Int) (n : Nat) (tc tp tm tt : Tab) (deep : Str) (ks : List Str) (k : Ky) (s : Gt Pol) : Gt Pol := (fA w (n + 6) tc tp tm tt).pressN deep ks (l0 n) k s
/-! signs -/
end
end DL.Lf
namespace DL.Lf
open PySem PySem.Spec PyProof.Rows L2 DL
/-! ### plain rows work out their formulas: the walk of a row -/
section
variable {w : Int} {n : Nat} {tc tp tm tt : Tab} {deep : Str} {ks : List Str}
/-- the run and its way, of polynomials -/
def runP (w : Int) (n : Nat) (tc tp tm tt : Tab) (deep : Str) (ks : List Str) (r : List Ky) (s : Gt Pol) : Gt Pol := Lg.runG (fA w (n + 6) tc tp tm tt) deep ks (l0 n) r s
def WayP (w : Int) (n : Nat) (tc tp tm tt : Tab) (deep : Str) (ks : List Str) (r : List Ky) (s : Gt Pol) : Prop := Lg.Way (fA w (n + 6) tc tp tm tt) (Pg (n + 6)) deep ks (l0 n) r s
/-- what is shown of a formula -/
def Goes (w : Int) (n : Nat) (tc tp tm tt : Tab) (deep : Str) (ks : List Str) (f : Fm) : Prop := ∀ s : Gt Pol, f.needs ≤ n → s.lv.length = n → s.All (Pg (n + 6)) → (s.way = "open" → isNum (fl f) = true → S1 (n + 6) (s.lv.getD 0 [])) →
  WayP w n tc tp tm tt deep ks (krow f) s ∧ Res n (gF (n + 6) (n + 2) (ent n s f) f) (rst s f) f.needs (isNum f) (runP w n tc tp tm tt deep ks (krow f) s)
structure Two (n : Nat) (b : Fm) (s1 s3 : Gt Pol) : Prop where
  len : s3.lv.length = n
  top : s3.lv.getD 0 [] = Pl.ofF (n + 6) (n + 2) b
  rest : ∀ i : Nat, (i : Int) + b.needs < (n : Nat) → s3.lv.getD (i + 1) [] = s1.lv.dropLast.getD i []
  all : s3.All (Pg (n + 6))
def tailR (a b : Fm) : List Ky := if isNum a && isNum (fl b) then .enter :: krow b else krow b
/-! from the unknowns -/
end
end DL.Lf
namespace DL.Lv
open PySem PySem.Spec PyProof.Rows L2 DL
/-! ### the value of a formula, by the program and by a law -/
noncomputable def B_value (self : List D → M D) : SM := seqS (ifS (tstF (unF (isiD "int") (varF 0))) (retF (varF 0)) (nxF)) (seqS (ifS (tstF (unF (isiD "str") (varF 0))) (retF (binF ixD (varF 1) (metF "str" sixD (cstF (.str "abcd")) [varF 0]))) (nxF)) (seqS (ifS (tbF (binF eqD (binF ixD (varF 0) (cstF (.int 0))) (cstF (.str "neg")))) (retF (binF subD (cstF (.int 0)) (calF (fun xs => self (xs ++ [])) [binF ixD (varF 0) (cstF (.int 1)), varF 1]))) (nxF)) (seqS (parF [2, 3] [calF (fun xs => self (xs ++ [])) [binF ixD (varF 0) (cstF (.int 1)), varF 1], calF (fun xs => self (xs ++ [])) [binF ixD (varF 0) (cstF (.int 2)), varF 1]]) (seqS (ifS (tbF (binF eqD (binF ixD (varF 0) (cstF (.int 0))) (cstF (.str "+")))) (retF (binF addD (varF 2) (varF 3))) (nxF)) (retF (iteF (tbF (binF eqD (binF ixD (varF 0) (cstF (.int 0))) (cstF (.str "-")))) (binF subD (varF 2) (varF 3)) (binF mulD (varF 2) (varF 3))))))))
noncomputable def F_value : Nat → List D → M D
  | 0 => fun _ => bad
  | k + 1 => defF 4 (B_value (F_value k))
noncomputable def B_x_worth (self : List D → M D) : SM := seqS (ifS (notF (tstF (unF (isiD "tuple") (varF 0)))) (retF (iteF (tstF (unF (isiD "str") (varF 0))) (binF ixD (varF 1) (metF "str" sixD (cstF (.str "abcd")) [varF 0])) (varF 0))) (nxF)) (seqS (asgF 2 (calF (fun xs => self (xs ++ [])) [binF ixD (varF 0) (cstF (.int 1)), varF 1])) (seqS (ifS (tbF (binF eqD (binF ixD (varF 0) (cstF (.int 0))) (cstF (.str "neg")))) (retF (binF subD (cstF (.int 0)) (varF 2))) (nxF)) (seqS (asgF 3 (calF (fun xs => self (xs ++ [])) [binF ixD (varF 0) (cstF (.int 2)), varF 1])) (retF (binF dgtD (dispF [(cstF (.str "+"), binF addD (varF 2) (varF 3)), (cstF (.str "-"), binF subD (varF 2) (varF 3)), (cstF (.str "*"), binF mulD (varF 2) (varF 3))]) (binF ixD (varF 0) (cstF (.int 0))))))))
noncomputable def F_x_worth : Nat → List D → M D
  | 0 => fun _ => bad
  | k + 1 => defF 4 (B_x_worth (F_x_worth k))
local macro_rules | `(tactic| and_intros) => `(tactic| repeat (first | with_reducible refine StpA.go ?_ | with_reducible refine StpB.go ?_ | ((with_reducible refine Ok.var ?_); refine ⟨_, rfl, ?_⟩) | ((with_reducible refine Fr.go ?_); intro fr_ e_; simp only [List.set_cons_zero, List.set_cons_succ, setAll, wipeF] at e_; subst e_) | with_reducible refine Ok.sli_tail ?_ | ((with_reducible refine OkS.aug ?_); refine ⟨_, rfl, ?_⟩) | ((with_reducible refine Ok.ix_t ?_); refine ⟨_, rfl, ?_⟩) | ((with_reducible refine Ok.ix_l ?_); refine ⟨_, rfl, ?_⟩) | ((with_reducible refine Ok.tgT ?_ ?_); exact rfl) | with_reducible refine Ok.sli_t ?_ | with_reducible refine Ok.sli_l ?_ | ((with_reducible refine Ok.mod_ii ?_ ?_); (first | decide | (simp; done) | (simp; omega))) | ((with_reducible refine Ok.add_tt ?_ ?_); (first | decide | (simp; done) | (simp; omega))) | ((with_reducible refine Ok.add_ll ?_ ?_); (first | decide | (simp; done) | (simp; omega))) | ((with_reducible refine Ok.add_ss ?_ ?_); (first | decide | (simp; done) | (simp; omega))) | ((with_reducible refine Ok.rng1 ?_ ?_); (first | decide | omega | (simp; omega))) | ((with_reducible refine Br.dt ?_ ?_); (first | assumption | exact rfl | omega | decide +kernel)) | ((with_reducible refine Br.df ?_ ?_); (first | assumption | omega | decide +kernel)) | ((with_reducible refine Br.tt ?_ ?_); (first | assumption | decide +kernel)) | ((with_reducible refine Br.ff ?_ ?_); (first | assumption | decide +kernel)) | ((with_reducible refine Ok.isi_tup (p := true) ?_ ?_); decide +kernel) | ((with_reducible refine Ok.isi_tup (p := false) ?_ ?_); decide +kernel) | ((with_reducible refine Ok.isi_int (p := true) ?_ ?_); decide +kernel) | ((with_reducible refine Ok.isi_int (p := false) ?_ ?_); decide +kernel) | ((with_reducible refine Ok.isi_str (p := true) ?_ ?_); decide +kernel) | ((with_reducible refine Ok.isi_str (p := false) ?_ ?_); decide +kernel) | ((with_reducible refine Ok.isi_lst (p := true) ?_ ?_); decide +kernel) | ((with_reducible refine Ok.isi_lst (p := false) ?_ ?_); decide +kernel) | ((with_reducible refine Ok.isi_bl (p := true) ?_ ?_); decide +kernel) | ((with_reducible refine Ok.isi_bl (p := false) ?_ ?_); decide +kernel) | ((with_reducible refine Ok.isi_non (p := true) ?_ ?_); decide +kernel) | ((with_reducible refine Ok.isi_non (p := false) ?_ ?_); decide +kernel) | ((with_reducible refine Ok.isi_ctu (p := true) ?_ ?_); decide +kernel) | ((with_reducible refine Ok.isi_ctu (p := false) ?_ ?_); decide +kernel) | ((with_reducible refine Ok.isi_emp (p := true) ?_ ?_); decide +kernel) | ((with_reducible refine Ok.isi_emp (p := false) ?_ ?_); decide +kernel)))
def lix (s : Str) : Nat := (Builtin.Str.occurrences "abcd" s 0 (Str.length "abcd") 1).headD 0
def val (l : List Int) : Fm → Int
  | .num n => n
  | .lett s => l.getD (lix s) 0
  | .neg f => 0 - val l f
  | .bin op f g => if op = "+" then val l f + val l g else if op = "-" then val l f - val l g else val l f * val l g
/-! the value by the polynomial -/
end DL.Lv
namespace DL.Lf
open PySem PySem.Spec PyProof.Rows L2 DL
/-! ### effects of rows whose way is known; reckons, beneath -/
noncomputable def C_L_beneath_1 : DL.Frame → M Bool := andF (tbF (binF ltD (varF 3) (binF subD (prpF [("Box", Lg.F_Box_levels)] (varF 0)) (cstF (.int 1))))) (tbF (binF eqD (binF ixD (varF 2) (binF addD (varF 3) (cstF (.int 1)))) (calF (fun xs => Lb.F_unknown (xs ++ [])) [calF (fun xs => F_many_unknowns (xs ++ [])) [varF 0], varF 3])))
noncomputable def B_reckons (tc tp tm tt : Tab) : SM := retF (binF eqD (binF ixD (binF ixD (binF ixD (calF (fun xs => F_effects tc tp tm tt (xs ++ [])) [varF 0, varF 1]) (cstF (.int 0))) (cstF (.int 0))) (cstF (.int 0))) (calF (fun xs => F_due_of tc tp tm tt (xs ++ [])) [varF 0, varF 2]))
noncomputable abbrev F_reckons (tc tp tm tt : Tab) : List D → M D := defF 3 (B_reckons tc tp tm tt)
noncomputable def L_beneath_1 : SM := augF 3 iaddD (cstF (.int 1))
noncomputable def B_beneath (tc tp tm tt : Tab) : SM := seqS (asgF 2 (binF ixD (binF ixD (calF (fun xs => F_effects tc tp tm tt (xs ++ [])) [varF 0, varF 1]) (cstF (.int 0))) (cstF (.int 0)))) (seqS (asgF 3 (cstF (.int 0))) (seqS (whileF (C_L_beneath_1) (L_beneath_1)) (retF (varF 3))))
noncomputable abbrev F_beneath (tc tp tm tt : Tab) : List D → M D := defF 4 (B_beneath tc tp tm tt)
/-- level k + 1 is the unknown k -/
def isU (n : Nat) (lv : List Pol) (k : Nat) : Bool := decide (lv.getD (k + 1) [] = Pl.unk (n + 6) k)
/-- how many of the first places, from k on, c at most, are so -/
def ld (t : Nat → Bool) : Nat → Nat → Nat
  | 0, k => k
  | c + 1, k => if t k = true then ld t c (k + 1) else k
local macro_rules | `(tactic| and_intros) => `(tactic| repeat (first | with_reducible refine StpA.go ?_ | with_reducible refine StpB.go ?_ | ((with_reducible refine Ok.var ?_); refine ⟨_, rfl, ?_⟩) | ((with_reducible refine Fr.go ?_); intro fr_ e_; simp only [List.set_cons_zero, List.set_cons_succ, setAll, wipeF] at e_; subst e_) | ((with_reducible refine Ok.tgT ?_ ?_); (exact rfl)) | ((with_reducible refine Ok.tgQt ?_ ?_); (exact rfl)) | ((with_reducible refine Ok.tgQl ?_ ?_); (exact rfl)) | with_reducible refine Ok.tupP ?_ | with_reducible refine Ok.tupleP ?_ | ((with_reducible refine Ok.isi_ptu (p := true) ?_ ?_); decide +kernel) | ((with_reducible refine Ok.isi_ptu (p := false) ?_ ?_); decide +kernel) | with_reducible refine ItQ.ptu ?_ | with_reducible refine SrcQ.ptu ?_ | with_reducible refine Ok.len_p ?_ | with_reducible refine Ok.prp1 ?_ | refine ⟨_, _, rfl, (by assumption), ?_⟩ | with_reducible refine Ok.sli_tail ?_ | ((with_reducible refine OkS.aug ?_); refine ⟨_, rfl, ?_⟩) | ((with_reducible refine Ok.ix_t ?_); refine ⟨_, rfl, ?_⟩) | ((with_reducible refine Ok.ix_l ?_); refine ⟨_, rfl, ?_⟩) | ((with_reducible refine Ok.tgT ?_ ?_); exact rfl) | with_reducible refine Ok.sli_t ?_ | with_reducible refine Ok.sli_l ?_ | ((with_reducible refine Ok.mod_ii ?_ ?_); (first | decide | (simp; done) | (simp; omega))) | ((with_reducible refine Ok.add_tt ?_ ?_); (first | decide | (simp; done) | (simp; omega))) | ((with_reducible refine Ok.add_ll ?_ ?_); (first | decide | (simp; done) | (simp; omega))) | ((with_reducible refine Ok.add_ss ?_ ?_); (first | decide | (simp; done) | (simp; omega))) | ((with_reducible refine Ok.rng1 ?_ ?_); (first | decide | omega | (simp; omega))) | ((with_reducible refine Br.dt ?_ ?_); (first | assumption | exact rfl | omega | decide +kernel)) | ((with_reducible refine Br.df ?_ ?_); (first | assumption | omega | decide +kernel)) | ((with_reducible refine Br.tt ?_ ?_); (first | assumption | decide +kernel)) | ((with_reducible refine Br.ff ?_ ?_); (first | assumption | decide +kernel)) | ((with_reducible refine Ok.isi_tup (p := true) ?_ ?_); decide +kernel) | ((with_reducible refine Ok.isi_tup (p := false) ?_ ?_); decide +kernel) | ((with_reducible refine Ok.isi_int (p := true) ?_ ?_); decide +kernel) | ((with_reducible refine Ok.isi_int (p := false) ?_ ?_); decide +kernel) | ((with_reducible refine Ok.isi_str (p := true) ?_ ?_); decide +kernel) | ((with_reducible refine Ok.isi_str (p := false) ?_ ?_); decide +kernel) | ((with_reducible refine Ok.isi_lst (p := true) ?_ ?_); decide +kernel) | ((with_reducible refine Ok.isi_lst (p := false) ?_ ?_); decide +kernel) | ((with_reducible refine Ok.isi_bl (p := true) ?_ ?_); decide +kernel) | ((with_reducible refine Ok.isi_bl (p := false) ?_ ?_); decide +kernel) | ((with_reducible refine Ok.isi_non (p := true) ?_ ?_); decide +kernel) | ((with_reducible refine Ok.isi_non (p := false) ?_ ?_); decide +kernel) | ((with_reducible refine Ok.isi_ctu (p := true) ?_ ?_); decide +kernel) | ((with_reducible refine Ok.isi_ctu (p := false) ?_ ?_); decide +kernel) | ((with_reducible refine Ok.isi_emp (p := true) ?_ ?_); decide +kernel) | ((with_reducible refine Ok.isi_emp (p := false) ?_ ?_); decide +kernel)))
section
variable {S S0 : Store} {QD : D → Store → Prop} {QS : Fl → DL.Frame → Store → Prop} {m n b : Nat} {w size : Int} {deep : Str} {ks : List Str} {mode : Str} {r : List Ky} {tc tp tm tt : Tab}
/-- a row that leads through states of polynomials that are narrow, from each mode -/
def Ways (n : Nat) (deep : Str) (ks : List Str) (E : Nat) (r : List Ky) : Prop := ∀ (mode : Str) (w : Int) (tc tp tm tt : Tab), Lg.Way (fA w (n + 6) tc tp tm tt) (PF (n + 6) E) deep ks (l0 n) r (s0 n mode)
end
end DL.Lf
/-! ### rows as tuples of any make -/
namespace DL
open PySem PySem.Spec PyProof.Rows L2 DL
def rowC (r : List Ky) : D := .ctu ((r.map Ky.s).map .str)
def rowP (r : List Ky) : D := .ptu ((r.map Ky.s).map .str)
end DL
namespace DL.Lb
open PySem PySem.Spec PyProof.Rows L2 DL
local macro_rules | `(tactic| and_intros) => `(tactic| repeat (first | with_reducible refine StpA.go ?_ | with_reducible refine StpB.go ?_ | ((with_reducible refine Ok.var ?_); refine ⟨_, rfl, ?_⟩) | ((with_reducible refine Fr.go ?_); intro fr_ e_; simp only [List.set_cons_zero, List.set_cons_succ, setAll, wipeF] at e_; subst e_) | with_reducible refine Ok.sli_tail ?_ | ((with_reducible refine OkS.aug ?_); refine ⟨_, rfl, ?_⟩) | ((with_reducible refine Ok.ix_t ?_); refine ⟨_, rfl, ?_⟩) | ((with_reducible refine Ok.ix_l ?_); refine ⟨_, rfl, ?_⟩) | ((with_reducible refine Ok.tgT ?_ ?_); exact rfl) | with_reducible refine Ok.sli_t ?_ | with_reducible refine Ok.sli_l ?_ | ((with_reducible refine Ok.mod_ii ?_ ?_); (first | decide | (simp; done) | (simp; omega))) | ((with_reducible refine Ok.add_tt ?_ ?_); (first | decide | (simp; done) | (simp; omega))) | ((with_reducible refine Ok.add_ll ?_ ?_); (first | decide | (simp; done) | (simp; omega))) | ((with_reducible refine Ok.add_ss ?_ ?_); (first | decide | (simp; done) | (simp; omega))) | ((with_reducible refine Ok.rng1 ?_ ?_); (first | decide | omega | (simp; omega))) | ((with_reducible refine Br.dt ?_ ?_); (first | assumption | exact rfl | omega | decide +kernel)) | ((with_reducible refine Br.df ?_ ?_); (first | assumption | omega | decide +kernel)) | ((with_reducible refine Br.tt ?_ ?_); (first | assumption | decide +kernel)) | ((with_reducible refine Br.ff ?_ ?_); (first | assumption | decide +kernel)) | ((with_reducible refine Ok.isi_tup (p := true) ?_ ?_); decide +kernel) | ((with_reducible refine Ok.isi_tup (p := false) ?_ ?_); decide +kernel) | ((with_reducible refine Ok.isi_int (p := true) ?_ ?_); decide +kernel) | ((with_reducible refine Ok.isi_int (p := false) ?_ ?_); decide +kernel) | ((with_reducible refine Ok.isi_str (p := true) ?_ ?_); decide +kernel) | ((with_reducible refine Ok.isi_str (p := false) ?_ ?_); decide +kernel) | ((with_reducible refine Ok.isi_lst (p := true) ?_ ?_); decide +kernel) | ((with_reducible refine Ok.isi_lst (p := false) ?_ ?_); decide +kernel) | ((with_reducible refine Ok.isi_bl (p := true) ?_ ?_); decide +kernel) | ((with_reducible refine Ok.isi_bl (p := false) ?_ ?_); decide +kernel) | ((with_reducible refine Ok.isi_non (p := true) ?_ ?_); decide +kernel) | ((with_reducible refine Ok.isi_non (p := false) ?_ ?_); decide +kernel) | ((with_reducible refine Ok.isi_ctu (p := true) ?_ ?_); decide +kernel) | ((with_reducible refine Ok.isi_ctu (p := false) ?_ ?_); decide +kernel) | ((with_reducible refine Ok.isi_emp (p := true) ?_ ?_); decide +kernel) | ((with_reducible refine Ok.isi_emp (p := false) ?_ ?_); decide +kernel)))
section
variable {S : Store} {QD : D → Store → Prop} {n m q : Nat}
noncomputable def B_x_rowP : SM := seqS (asgF 2 (lstO [])) (seqS (forF (rngF rng1 [calF (fun xs => F_x_draw (xs ++ [])) [varF 0, binF addD (varF 1) (cstF (.int 1))]]) (tgName 3) (L_x_row_1)) (retF (calF tupleP [varF 2])))
noncomputable abbrev F_x_rowP : List D → M D := defF 5 B_x_rowP
end
end DL.Lb
namespace DL.Lb
open PySem PySem.Spec PyProof.Rows L2 DL
local macro_rules | `(tactic| and_intros) => `(tactic| repeat (first | with_reducible refine StpA.go ?_ | with_reducible refine StpB.go ?_ | ((with_reducible refine Ok.var ?_); refine ⟨_, rfl, ?_⟩) | ((with_reducible refine Fr.go ?_); intro fr_ e_; simp only [List.set_cons_zero, List.set_cons_succ, setAll, wipeF] at e_; subst e_) | with_reducible refine Ok.sli_tail ?_ | ((with_reducible refine OkS.aug ?_); refine ⟨_, rfl, ?_⟩) | ((with_reducible refine Ok.ix_t ?_); refine ⟨_, rfl, ?_⟩) | ((with_reducible refine Ok.ix_l ?_); refine ⟨_, rfl, ?_⟩) | ((with_reducible refine Ok.tgT ?_ ?_); exact rfl) | with_reducible refine Ok.sli_t ?_ | with_reducible refine Ok.sli_l ?_ | ((with_reducible refine Ok.mod_ii ?_ ?_); (first | decide | (simp; done) | (simp; omega))) | ((with_reducible refine Ok.add_tt ?_ ?_); (first | decide | (simp; done) | (simp; omega))) | ((with_reducible refine Ok.add_ll ?_ ?_); (first | decide | (simp; done) | (simp; omega))) | ((with_reducible refine Ok.add_ss ?_ ?_); (first | decide | (simp; done) | (simp; omega))) | ((with_reducible refine Ok.rng1 ?_ ?_); (first | decide | omega | (simp; omega))) | ((with_reducible refine Br.dt ?_ ?_); (first | assumption | exact rfl | omega | decide +kernel)) | ((with_reducible refine Br.df ?_ ?_); (first | assumption | omega | decide +kernel)) | ((with_reducible refine Br.tt ?_ ?_); (first | assumption | decide +kernel)) | ((with_reducible refine Br.ff ?_ ?_); (first | assumption | decide +kernel)) | ((with_reducible refine Ok.isi_tup (p := true) ?_ ?_); decide +kernel) | ((with_reducible refine Ok.isi_tup (p := false) ?_ ?_); decide +kernel) | ((with_reducible refine Ok.isi_int (p := true) ?_ ?_); decide +kernel) | ((with_reducible refine Ok.isi_int (p := false) ?_ ?_); decide +kernel) | ((with_reducible refine Ok.isi_str (p := true) ?_ ?_); decide +kernel) | ((with_reducible refine Ok.isi_str (p := false) ?_ ?_); decide +kernel) | ((with_reducible refine Ok.isi_lst (p := true) ?_ ?_); decide +kernel) | ((with_reducible refine Ok.isi_lst (p := false) ?_ ?_); decide +kernel) | ((with_reducible refine Ok.isi_bl (p := true) ?_ ?_); decide +kernel) | ((with_reducible refine Ok.isi_bl (p := false) ?_ ?_); decide +kernel) | ((with_reducible refine Ok.isi_non (p := true) ?_ ?_); decide +kernel) | ((with_reducible refine Ok.isi_non (p := false) ?_ ?_); decide +kernel) | ((with_reducible refine Ok.isi_ctu (p := true) ?_ ?_); decide +kernel) | ((with_reducible refine Ok.isi_ctu (p := false) ?_ ?_); decide +kernel) | ((with_reducible refine Ok.isi_emp (p := true) ?_ ?_); decide +kernel) | ((with_reducible refine Ok.isi_emp (p := false) ?_ ?_); decide +kernel)))
section
variable {S0 S Sg : Store} {o : Nat} {size : Int} {deep : Str} {ks : List Str} {s : St} {l r : D} {i : Int}
end
end DL.Lb
namespace DL.Lf
open PySem PySem.Spec PyProof.Rows L2 DL
local macro_rules | `(tactic| and_intros) => `(tactic| repeat (first | with_reducible refine StpA.go ?_ | with_reducible refine StpB.go ?_ | ((with_reducible refine Ok.var ?_); refine ⟨_, rfl, ?_⟩) | ((with_reducible refine Fr.go ?_); intro fr_ e_; simp only [List.set_cons_zero, List.set_cons_succ, setAll, wipeF] at e_; subst e_) | ((with_reducible refine Ok.tgT ?_ ?_); (exact rfl)) | ((with_reducible refine Ok.tgQt ?_ ?_); (exact rfl)) | ((with_reducible refine Ok.tgQl ?_ ?_); (exact rfl)) | with_reducible refine Ok.tupP ?_ | with_reducible refine Ok.tupleP ?_ | ((with_reducible refine Ok.isi_ptu (p := true) ?_ ?_); decide +kernel) | ((with_reducible refine Ok.isi_ptu (p := false) ?_ ?_); decide +kernel) | with_reducible refine ItQ.ptu ?_ | with_reducible refine SrcQ.ptu ?_ | with_reducible refine Ok.len_p ?_ | with_reducible refine Ok.prp1 ?_ | refine ⟨_, _, rfl, (by assumption), ?_⟩ | with_reducible refine Lg.levels_ (by assumption) ?_ | with_reducible refine Ok.sli_tail ?_ | ((with_reducible refine OkS.aug ?_); refine ⟨_, rfl, ?_⟩) | ((with_reducible refine Ok.ix_t ?_); refine ⟨_, rfl, ?_⟩) | ((with_reducible refine Ok.ix_l ?_); refine ⟨_, rfl, ?_⟩) | ((with_reducible refine Ok.tgT ?_ ?_); exact rfl) | with_reducible refine Ok.sli_t ?_ | with_reducible refine Ok.sli_l ?_ | ((with_reducible refine Ok.mod_ii ?_ ?_); (first | decide | (simp; done) | (simp; omega))) | ((with_reducible refine Ok.add_tt ?_ ?_); (first | decide | (simp; done) | (simp; omega))) | ((with_reducible refine Ok.add_ll ?_ ?_); (first | decide | (simp; done) | (simp; omega))) | ((with_reducible refine Ok.add_ss ?_ ?_); (first | decide | (simp; done) | (simp; omega))) | ((with_reducible refine Ok.rng1 ?_ ?_); (first | decide | omega | (simp; omega))) | ((with_reducible refine Br.dt ?_ ?_); (first | assumption | exact rfl | omega | decide +kernel)) | ((with_reducible refine Br.df ?_ ?_); (first | assumption | omega | decide +kernel)) | ((with_reducible refine Br.tt ?_ ?_); (first | assumption | decide +kernel)) | ((with_reducible refine Br.ff ?_ ?_); (first | assumption | decide +kernel)) | ((with_reducible refine Ok.isi_tup (p := true) ?_ ?_); decide +kernel) | ((with_reducible refine Ok.isi_tup (p := false) ?_ ?_); decide +kernel) | ((with_reducible refine Ok.isi_int (p := true) ?_ ?_); decide +kernel) | ((with_reducible refine Ok.isi_int (p := false) ?_ ?_); decide +kernel) | ((with_reducible refine Ok.isi_str (p := true) ?_ ?_); decide +kernel) | ((with_reducible refine Ok.isi_str (p := false) ?_ ?_); decide +kernel) | ((with_reducible refine Ok.isi_lst (p := true) ?_ ?_); decide +kernel) | ((with_reducible refine Ok.isi_lst (p := false) ?_ ?_); decide +kernel) | ((with_reducible refine Ok.isi_bl (p := true) ?_ ?_); decide +kernel) | ((with_reducible refine Ok.isi_bl (p := false) ?_ ?_); decide +kernel) | ((with_reducible refine Ok.isi_non (p := true) ?_ ?_); decide +kernel) | ((with_reducible refine Ok.isi_non (p := false) ?_ ?_); decide +kernel) | ((with_reducible refine Ok.isi_ctu (p := true) ?_ ?_); decide +kernel) | ((with_reducible refine Ok.isi_ctu (p := false) ?_ ?_); decide +kernel) | ((with_reducible refine Ok.isi_emp (p := true) ?_ ?_); decide +kernel) | ((with_reducible refine Ok.isi_emp (p := false) ?_ ?_); decide +kernel)))
section
variable {S : Store} {QD : D → Store → Prop} {n m b : Nat} {w size : Int} {tc tp tm tt : Tab} {deep : Str} {ks : List Str} {mode : Str} {r r2 : List Ky}
end
end DL.Lf
namespace DL
open PySem PySem.Spec PyProof.Rows L2 HT
/-! ### a list times an int -/
def rLm (K : PySem.W.Frag) : R2 := fun x y H Q => ∃ l k xs, x = .ref l ∧ y = .int k ∧ SqL K H l xs ∧ 0 ≤ k ∧ k ≤ 1000 ∧ xs.length ≤ 100 ∧ ∀ p, H p = none → Q (.ref p) (upd H p (.lst (List.replicate k.toNat xs).flatten))
section
variable {X : Cx} {W : WE}
def mulL (x y : D) : M D := fun S => match lstL S x, y with
  | some l, .int k => if 0 ≤ k ∧ k ≤ 1000 ∧ l.length ≤ 100 then .ok (.lst (List.replicate k.toNat l).flatten) S else .bad
  | _, _ => .bad
end
end DL
namespace DL.Lf
open PySem PySem.Spec PyProof.Rows L2 DL
/-! ### starts from which two rows lead to unlike states -/
noncomputable def L_parted_in_1 : SM := ifS (tbF (binF neD (varF 5) (varF 6))) (retF (calF (fun xs => F_start_of (xs ++ [])) [varF 0, varF 1, calF (fun xs => F_numbers_beside (xs ++ [])) [calF (fun xs => Lb.F_minus (xs ++ [])) [varF 5, varF 6], varF 4]])) (nxF)
noncomputable def B_parted_in : SM := seqS (asgF 4 (calF (fun xs => F_many_unknowns (xs ++ [])) [varF 0])) (seqS (ifS (tbF (binF neD (binF ixD (varF 2) (cstF (.int 3))) (binF ixD (varF 3) (cstF (.int 3))))) (retF (calF (fun xs => F_start_of (xs ++ [])) [varF 0, varF 1, binF mulL (lstF [cstF (.int 0)]) (varF 4)])) (nxF)) (seqS (forF (rngF zipS [calF (fun xs => F_polys_of (xs ++ [])) [varF 2], calF (fun xs => F_polys_of (xs ++ [])) [varF 3]]) (tgTup [tgName 5, tgName 6]) (L_parted_in_1)) (retF (cstF .non))))
noncomputable abbrev F_parted_in : List D → M D := defF 7 B_parted_in
noncomputable def L_parted_1 : SM := seqS (asgF 6 (calF (fun xs => F_parted_in (xs ++ [])) [varF 0, varF 3, varF 4, varF 5])) (ifS (tbF (binF notND (varF 6) (cstF .non))) (retF (varF 6)) (nxF))
noncomputable def B_parted (tc tp tm tt : Tab) : SM := seqS (forF (rngF zip3S [cstF (.ctu (K_MODES.map .str)), calF (fun xs => F_effects tc tp tm tt (xs ++ [])) [varF 0, varF 1], calF (fun xs => F_effects tc tp tm tt (xs ++ [])) [varF 0, varF 2]]) (tgTup [tgName 3, tgName 4, tgName 5]) (L_parted_1)) (retF (cstF .non))
noncomputable abbrev F_parted (tc tp tm tt : Tab) : List D → M D := defF 7 (B_parted tc tp tm tt)
local macro_rules | `(tactic| and_intros) => `(tactic| repeat (first | with_reducible refine StpA.go ?_ | with_reducible refine StpB.go ?_ | ((with_reducible refine Ok.var ?_); refine ⟨_, rfl, ?_⟩) | ((with_reducible refine Fr.go ?_); intro fr_ e_; simp only [List.set_cons_zero, List.set_cons_succ, setAll, wipeF] at e_; subst e_) | ((with_reducible refine Ok.tgT ?_ ?_); (exact rfl)) | ((with_reducible refine Ok.tgQt ?_ ?_); (exact rfl)) | ((with_reducible refine Ok.tgQl ?_ ?_); (exact rfl)) | with_reducible refine Ok.tupP ?_ | with_reducible refine Ok.tupleP ?_ | ((with_reducible refine Ok.isi_ptu (p := true) ?_ ?_); decide +kernel) | ((with_reducible refine Ok.isi_ptu (p := false) ?_ ?_); decide +kernel) | with_reducible refine ItQ.ptu ?_ | with_reducible refine SrcQ.ptu ?_ | with_reducible refine Ok.len_p ?_ | with_reducible refine Ok.prp1 ?_ | refine ⟨_, _, rfl, (by assumption), ?_⟩ | with_reducible refine Ok.sli_tail ?_ | ((with_reducible refine OkS.aug ?_); refine ⟨_, rfl, ?_⟩) | ((with_reducible refine Ok.ix_t ?_); refine ⟨_, rfl, ?_⟩) | ((with_reducible refine Ok.ix_l ?_); refine ⟨_, rfl, ?_⟩) | ((with_reducible refine Ok.tgT ?_ ?_); exact rfl) | with_reducible refine Ok.sli_t ?_ | with_reducible refine Ok.sli_l ?_ | ((with_reducible refine Ok.mod_ii ?_ ?_); (first | decide | (simp; done) | (simp; omega))) | ((with_reducible refine Ok.add_tt ?_ ?_); (first | decide | (simp; done) | (simp; omega))) | ((with_reducible refine Ok.add_ll ?_ ?_); (first | decide | (simp; done) | (simp; omega))) | ((with_reducible refine Ok.add_ss ?_ ?_); (first | decide | (simp; done) | (simp; omega))) | ((with_reducible refine Ok.rng1 ?_ ?_); (first | decide | omega | (simp; omega))) | ((with_reducible refine Br.dt ?_ ?_); (first | assumption | exact rfl | omega | decide +kernel)) | ((with_reducible refine Br.df ?_ ?_); (first | assumption | omega | decide +kernel)) | ((with_reducible refine Br.tt ?_ ?_); (first | assumption | decide +kernel)) | ((with_reducible refine Br.ff ?_ ?_); (first | assumption | decide +kernel)) | ((with_reducible refine Ok.isi_tup (p := true) ?_ ?_); decide +kernel) | ((with_reducible refine Ok.isi_tup (p := false) ?_ ?_); decide +kernel) | ((with_reducible refine Ok.isi_int (p := true) ?_ ?_); decide +kernel) | ((with_reducible refine Ok.isi_int (p := false) ?_ ?_); decide +kernel) | ((with_reducible refine Ok.isi_str (p := true) ?_ ?_); decide +kernel) | ((with_reducible refine Ok.isi_str (p := false) ?_ ?_); decide +kernel) | ((with_reducible refine Ok.isi_lst (p := true) ?_ ?_); decide +kernel) | ((with_reducible refine Ok.isi_lst (p := false) ?_ ?_); decide +kernel) | ((with_reducible refine Ok.isi_bl (p := true) ?_ ?_); decide +kernel) | ((with_reducible refine Ok.isi_bl (p := false) ?_ ?_); decide +kernel) | ((with_reducible refine Ok.isi_non (p := true) ?_ ?_); decide +kernel) | ((with_reducible refine Ok.isi_non (p := false) ?_ ?_); decide +kernel) | ((with_reducible refine Ok.isi_ctu (p := true) ?_ ?_); decide +kernel) | ((with_reducible refine Ok.isi_ctu (p := false) ?_ ?_); decide +kernel) | ((with_reducible refine Ok.isi_emp (p := true) ?_ ?_); decide +kernel) | ((with_reducible refine Ok.isi_emp (p := false) ?_ ?_); decide +kernel)))
/-- the numbers of the unknowns at which two effects are unlike -/
def pIn (n : Nat) (g h : Gt Pol) : Option (List Int) :=
  if g.way ≠ h.way then some (List.replicate (n + 6) 0) else (((polys g).zip (polys h)).find? fun x => decide (x.1 ≠ x.2)).map fun x => Pl.nums (Pl.minus x.1 x.2) (n + 6)
def pAll (n : Nat) : List (Str × Gt Pol × Gt Pol) → Option (Str × List Int)
  | [] => none
  | (mode, g, h) :: r => match pIn n g h with
    | some xs => some (mode, xs)
    | none => pAll n r
def partN (n : Nat) (deep : Str) (ks : List Str) (r r2 : List Ky) : Option (Str × List Int) := pAll n (K_MODES.map fun mode => (mode, effN n deep ks mode r, effN n deep ks mode r2))
def sD (n : Nat) : Option (Str × List Int) → D
  | none => .non
  | some (mode, xs) => startD n mode xs
/-- polynomials as rows of at most nine keys with three products make them -/
structure P9 (m : Nat) (p : Pol) : Prop where
  cn : Pl.Cn m p
  dg : Pl.Dg (8 : Nat) p
  nm : Pl.nm p < 10 ^ 80
  len : p.length ≤ 200
section
variable {S : Store} {QD : D → Store → Prop} {QS : Fl → DL.Frame → Store → Prop} {n m b : Nat} {w size : Int} {tc tp tm tt : Tab} {deep : Str} {ks : List Str} {mode : Str} {r r2 : List Ky} {p q : Pol}
end
end DL.Lf
namespace DL.Lb
open PySem PySem.Spec PyProof.Rows L2 DL
/-! ### starts: what is one, when they lead to the same -/
noncomputable def E_x_is_state_1 : DL.Frame → M D := varF 3
noncomputable def T_x_is_state_1 : DL.Frame → M Bool := andF (tstF (unF (isiD "int") (varF 3))) (notF (tstF (unF (isiD "bool") (varF 3))))
noncomputable def B_x_is_state : SM := seqS (ifS (orF (notF (tstF (unF (isiD "tuple") (varF 0)))) (orF (tbF (binF neD (calF lenD [varF 0]) (cstF (.int 4)))) (orF (notF (tstF (unF (isiD "tuple") (binF ixD (varF 0) (cstF (.int 0)))))) (tbF (binF neD (calF lenD [binF ixD (varF 0) (cstF (.int 0))]) (varF 1)))))) (retF (cstF (.bl false))) (nxF)) (seqS (asgF 2 (cmpD [3] (itF (binF addD (binF ixD (varF 0) (cstF (.int 0))) (sliF sliD (varF 0) (some (cstF (.int 1))) (some (cstF (.int 3)))))) (tgName 3) (T_x_is_state_1) (E_x_is_state_1))) (retF (andV (binF eqD (calF lenD [varF 2]) (binF addD (varF 1) (cstF (.int 2)))) (binF inD (binF ixD (varF 0) (cstF (.int 3))) (lstF [cstF (.str "free"), cstF (.str "held"), cstF (.str "open")])))))
noncomputable abbrev F_x_is_state : List D → M D := defF 4 B_x_is_state
noncomputable def E_x_is_start_1 : DL.Frame → M D := varF 2
noncomputable def T_x_is_start_1 : DL.Frame → M Bool := orF (notF (tstF (unF (isiD "int") (varF 2)))) (tstF (unF (isiD "bool") (varF 2)))
noncomputable def B_x_is_start : SM := seqS (ifS (orF (notF (tstF (unF (isiD "tuple") (varF 0)))) (orF (tbF (binF neD (calF lenD [varF 0]) (cstF (.int 2)))) (notF (tstF (calF (fun xs => F_x_is_state (xs ++ [])) [binF ixD (varF 0) (cstF (.int 0)), varF 1]))))) (retF (cstF (.bl false))) (nxF)) (seqS (ifS (orF (notF (tstF (unF (isiD "tuple") (binF ixD (varF 0) (cstF (.int 1)))))) (tbF (binF neD (calF lenD [binF ixD (varF 0) (cstF (.int 1))]) (cstF (.int 4))))) (retF (cstF (.bl false))) (nxF)) (retF (binF eqD (cmpD [2] (itF (binF ixD (varF 0) (cstF (.int 1)))) (tgName 2) (T_x_is_start_1) (E_x_is_start_1)) (lstF []))))
noncomputable abbrev F_x_is_start : List D → M D := defF 3 B_x_is_start
local macro_rules | `(tactic| and_intros) => `(tactic| repeat (first | with_reducible refine StpA.go ?_ | with_reducible refine StpB.go ?_ | ((with_reducible refine Ok.var ?_); refine ⟨_, rfl, ?_⟩) | ((with_reducible refine Fr.go ?_); intro fr_ e_; simp only [List.set_cons_zero, List.set_cons_succ, setAll, wipeF] at e_; subst e_) | ((with_reducible refine Ok.tgT ?_ ?_); (exact rfl)) | ((with_reducible refine Ok.tgQt ?_ ?_); (exact rfl)) | ((with_reducible refine Ok.tgQl ?_ ?_); (exact rfl)) | with_reducible refine Ok.tupP ?_ | with_reducible refine Ok.tupleP ?_ | ((with_reducible refine Ok.isi_ptu (p := true) ?_ ?_); decide +kernel) | ((with_reducible refine Ok.isi_ptu (p := false) ?_ ?_); decide +kernel) | with_reducible refine ItQ.ptu ?_ | with_reducible refine SrcQ.ptu ?_ | with_reducible refine Ok.len_p ?_ | with_reducible refine Ok.sli_tail ?_ | ((with_reducible refine OkS.aug ?_); refine ⟨_, rfl, ?_⟩) | ((with_reducible refine Ok.ix_t ?_); refine ⟨_, rfl, ?_⟩) | ((with_reducible refine Ok.ix_l ?_); refine ⟨_, rfl, ?_⟩) | ((with_reducible refine Ok.tgT ?_ ?_); exact rfl) | with_reducible refine Ok.sli_t ?_ | with_reducible refine Ok.sli_l ?_ | ((with_reducible refine Ok.mod_ii ?_ ?_); (first | decide | (simp; done) | (simp; omega))) | ((with_reducible refine Ok.add_tt ?_ ?_); (first | decide | (simp; done) | (simp; omega))) | ((with_reducible refine Ok.add_ll ?_ ?_); (first | decide | (simp; done) | (simp; omega))) | ((with_reducible refine Ok.add_ss ?_ ?_); (first | decide | (simp; done) | (simp; omega))) | ((with_reducible refine Ok.rng1 ?_ ?_); (first | decide | omega | (simp; omega))) | ((with_reducible refine Br.dt ?_ ?_); (first | assumption | exact rfl | omega | decide +kernel)) | ((with_reducible refine Br.df ?_ ?_); (first | assumption | omega | decide +kernel)) | ((with_reducible refine Br.tt ?_ ?_); (first | assumption | decide +kernel)) | ((with_reducible refine Br.ff ?_ ?_); (first | assumption | decide +kernel)) | ((with_reducible refine Ok.isi_tup (p := true) ?_ ?_); decide +kernel) | ((with_reducible refine Ok.isi_tup (p := false) ?_ ?_); decide +kernel) | ((with_reducible refine Ok.isi_int (p := true) ?_ ?_); decide +kernel) | ((with_reducible refine Ok.isi_int (p := false) ?_ ?_); decide +kernel) | ((with_reducible refine Ok.isi_str (p := true) ?_ ?_); decide +kernel) | ((with_reducible refine Ok.isi_str (p := false) ?_ ?_); decide +kernel) | ((with_reducible refine Ok.isi_lst (p := true) ?_ ?_); decide +kernel) | ((with_reducible refine Ok.isi_lst (p := false) ?_ ?_); decide +kernel) | ((with_reducible refine Ok.isi_bl (p := true) ?_ ?_); decide +kernel) | ((with_reducible refine Ok.isi_bl (p := false) ?_ ?_); decide +kernel) | ((with_reducible refine Ok.isi_non (p := true) ?_ ?_); decide +kernel) | ((with_reducible refine Ok.isi_non (p := false) ?_ ?_); decide +kernel) | ((with_reducible refine Ok.isi_ctu (p := true) ?_ ?_); decide +kernel) | ((with_reducible refine Ok.isi_ctu (p := false) ?_ ?_); decide +kernel) | ((with_reducible refine Ok.isi_emp (p := true) ?_ ?_); decide +kernel) | ((with_reducible refine Ok.isi_emp (p := false) ?_ ?_); decide +kernel)))
section
variable {S : Store} {QD : D → Store → Prop} {n m b : Nat} {size : Int} {deep : Str} {ks : List Str} {mode : Str} {r r2 : List Ky}
/-! states as data -/
def stEq (s t : St) : Bool := decide (s.lv = t.lv) && (decide (s.kp = t.kp) && (decide (s.mem = t.mem) && decide (s.way = t.way)))
end
end DL.Lb
namespace DL.Lf
open PySem PySem.Spec PyProof.Rows L2 DL
/-! ### parted, alike, runs -/
def stOf (n : Nat) (mode : Str) (xs : List Int) : DL.St := ⟨xs.take n, xs.getD n 0, xs.getD (n + 1) 0, mode⟩
section
variable {n : Nat} {deep : Str} {ks : List Str} {mode : Str} {r r2 : List Ky}
end
end DL.Lf

namespace DL
open PySem PySem.Spec PyProof.Rows L2
/-! ### try whose body raises nothing, in a def that nothing leaves -/
end DL
namespace DL.Pl
/-! ### polynomials whose powers lie in a list -/
def Sup (M : List Pw) (p : Pol) : Prop := ∀ x ∈ p, x.1 ∈ M
end DL.Pl
namespace DL.Lf
open PySem PySem.Spec PyProof.Rows L2 DL
/-! ### rows of three keys of any kind with keys without products behind them -/
section
variable {m n : Nat} {w : Int} {tc tp tm tt : Tab} {deep : Str} {ks : List Str} {l : List Pol} {mode : Str} {r r2 : List Ky}
def Sp (m : Nat) (M : List Pw) (p : Pol) : Prop := Pl.Cn m p ∧ Pl.Sup M p
/-- so many pairs at most -/
def Lq (m L : Nat) (p : Pol) : Prop := Pl.Cn m p ∧ p.length ≤ L
def lB : Nat → Nat → Nat
  | 0, L => L
  | k + 1, L => lB k (max (2 * L) (L * L))
/-- the powers of a state -/
def keysG (s : Gt Pol) : List Pw := (polys s).flatMap fun p => p.map (·.1)
/-- a row that effect serves, and whose effects may be compared -/
structure Gd (n : Nat) (deep : Str) (ks : List Str) (r : List Ky) : Prop where
  len : ∀ (mode : Str) (w : Int) (tc tp tm tt : Tab), Lg.Way (fA w (n + 6) tc tp tm tt) (fun p : Pol => Pl.Cn (n + 6) p ∧ p.length ≤ 200) deep ks (l0 n) r (s0 n mode)
  b : Lb.rB r 1 ≤ 480
  g : rG r 1 ≤ 99
/-! rows that lead to the same from all states are alike -/
end
local macro_rules | `(tactic| and_intros) => `(tactic| repeat (first | with_reducible refine StpA.go ?_ | with_reducible refine StpB.go ?_ | ((with_reducible refine Ok.var ?_); refine ⟨_, rfl, ?_⟩) | ((with_reducible refine Fr.go ?_); intro fr_ e_; simp only [List.set_cons_zero, List.set_cons_succ, setAll, wipeF] at e_; subst e_) | ((with_reducible refine Ok.tgT ?_ ?_); (exact rfl)) | ((with_reducible refine Ok.tgQt ?_ ?_); (exact rfl)) | ((with_reducible refine Ok.tgQl ?_ ?_); (exact rfl)) | with_reducible refine Ok.tupP ?_ | with_reducible refine Ok.tupleP ?_ | ((with_reducible refine Ok.isi_ptu (p := true) ?_ ?_); decide +kernel) | ((with_reducible refine Ok.isi_ptu (p := false) ?_ ?_); decide +kernel) | with_reducible refine ItQ.ptu ?_ | with_reducible refine SrcQ.ptu ?_ | with_reducible refine Ok.len_p ?_ | with_reducible refine Ok.sli_tail ?_ | ((with_reducible refine OkS.aug ?_); refine ⟨_, rfl, ?_⟩) | ((with_reducible refine Ok.ix_t ?_); refine ⟨_, rfl, ?_⟩) | ((with_reducible refine Ok.ix_l ?_); refine ⟨_, rfl, ?_⟩) | ((with_reducible refine Ok.tgT ?_ ?_); exact rfl) | with_reducible refine Ok.sli_t ?_ | with_reducible refine Ok.sli_l ?_ | ((with_reducible refine Ok.mod_ii ?_ ?_); (first | decide | (simp; done) | (simp; omega))) | ((with_reducible refine Ok.add_tt ?_ ?_); (first | decide | (simp; done) | (simp; omega))) | ((with_reducible refine Ok.add_ll ?_ ?_); (first | decide | (simp; done) | (simp; omega))) | ((with_reducible refine Ok.add_ss ?_ ?_); (first | decide | (simp; done) | (simp; omega))) | ((with_reducible refine Ok.rng1 ?_ ?_); (first | decide | omega | (simp; omega))) | ((with_reducible refine Br.dt ?_ ?_); (first | assumption | exact rfl | omega | decide +kernel)) | ((with_reducible refine Br.df ?_ ?_); (first | assumption | omega | decide +kernel)) | ((with_reducible refine Br.tt ?_ ?_); (first | assumption | decide +kernel)) | ((with_reducible refine Br.ff ?_ ?_); (first | assumption | decide +kernel)) | ((with_reducible refine Ok.isi_tup (p := true) ?_ ?_); decide +kernel) | ((with_reducible refine Ok.isi_tup (p := false) ?_ ?_); decide +kernel) | ((with_reducible refine Ok.isi_int (p := true) ?_ ?_); decide +kernel) | ((with_reducible refine Ok.isi_int (p := false) ?_ ?_); decide +kernel) | ((with_reducible refine Ok.isi_str (p := true) ?_ ?_); decide +kernel) | ((with_reducible refine Ok.isi_str (p := false) ?_ ?_); decide +kernel) | ((with_reducible refine Ok.isi_lst (p := true) ?_ ?_); decide +kernel) | ((with_reducible refine Ok.isi_lst (p := false) ?_ ?_); decide +kernel) | ((with_reducible refine Ok.isi_bl (p := true) ?_ ?_); decide +kernel) | ((with_reducible refine Ok.isi_bl (p := false) ?_ ?_); decide +kernel) | ((with_reducible refine Ok.isi_non (p := true) ?_ ?_); decide +kernel) | ((with_reducible refine Ok.isi_non (p := false) ?_ ?_); decide +kernel) | ((with_reducible refine Ok.isi_ctu (p := true) ?_ ?_); decide +kernel) | ((with_reducible refine Ok.isi_ctu (p := false) ?_ ?_); decide +kernel) | ((with_reducible refine Ok.isi_emp (p := true) ?_ ?_); decide +kernel) | ((with_reducible refine Ok.isi_emp (p := false) ?_ ?_); decide +kernel)))
section
variable {S : Store} {QD : D → Store → Prop} {n m b : Nat} {w size : Int} {tc tp tm tt : Tab} {deep : Str} {ks : List Str} {mode : Str} {r r2 : List Ky}
end
end DL.Lf
namespace DL.Pl
/-! ### rows with one product: powers of degree two at most -/
/-- all powers of m unknowns that come to s at most -/
def vecs : Nat → Nat → List Pw
  | 0, _ => [[]]
  | m + 1, s => (List.range (s + 1)).flatMap fun i => (vecs m (s - i)).map fun v => ((i : Nat) : Int) :: v
/-- degree two at most -/
def Fl2 (p : Pol) : Prop := ∀ x ∈ p, x.1.sum ≤ 2
end DL.Pl
namespace DL.Lf
open PySem PySem.Spec PyProof.Rows L2 DL
section
variable {m n : Nat} {w : Int} {tc tp tm tt : Tab} {deep : Str} {ks : List Str} {l : List Pol} {mode : Str} {r : List Ky}
def Flt2 (m : Nat) (p : Pol) : Prop := Pl.Cn m p ∧ Pl.Fl2 p
end
end DL.Lf
namespace DL.Lf
open PySem PySem.Spec PyProof.Rows L2 DL
/-! ### alike and parted of rows of any make that are good (Gd) -/
local macro_rules | `(tactic| and_intros) => `(tactic| repeat (first | with_reducible refine StpA.go ?_ | with_reducible refine StpB.go ?_ | ((with_reducible refine Ok.var ?_); refine ⟨_, rfl, ?_⟩) | ((with_reducible refine Fr.go ?_); intro fr_ e_; simp only [List.set_cons_zero, List.set_cons_succ, setAll, wipeF] at e_; subst e_) | ((with_reducible refine Ok.tgT ?_ ?_); (exact rfl)) | ((with_reducible refine Ok.tgQt ?_ ?_); (exact rfl)) | ((with_reducible refine Ok.tgQl ?_ ?_); (exact rfl)) | with_reducible refine Ok.tupP ?_ | with_reducible refine Ok.tupleP ?_ | ((with_reducible refine Ok.isi_ptu (p := true) ?_ ?_); decide +kernel) | ((with_reducible refine Ok.isi_ptu (p := false) ?_ ?_); decide +kernel) | with_reducible refine ItQ.ptu ?_ | with_reducible refine SrcQ.ptu ?_ | with_reducible refine Ok.len_p ?_ | with_reducible refine Ok.sli_tail ?_ | ((with_reducible refine OkS.aug ?_); refine ⟨_, rfl, ?_⟩) | ((with_reducible refine Ok.ix_t ?_); refine ⟨_, rfl, ?_⟩) | ((with_reducible refine Ok.ix_l ?_); refine ⟨_, rfl, ?_⟩) | ((with_reducible refine Ok.tgT ?_ ?_); exact rfl) | with_reducible refine Ok.sli_t ?_ | with_reducible refine Ok.sli_l ?_ | ((with_reducible refine Ok.mod_ii ?_ ?_); (first | decide | (simp; done) | (simp; omega))) | ((with_reducible refine Ok.add_tt ?_ ?_); (first | decide | (simp; done) | (simp; omega))) | ((with_reducible refine Ok.add_ll ?_ ?_); (first | decide | (simp; done) | (simp; omega))) | ((with_reducible refine Ok.add_ss ?_ ?_); (first | decide | (simp; done) | (simp; omega))) | ((with_reducible refine Ok.rng1 ?_ ?_); (first | decide | omega | (simp; omega))) | ((with_reducible refine Br.dt ?_ ?_); (first | assumption | exact rfl | omega | decide +kernel)) | ((with_reducible refine Br.df ?_ ?_); (first | assumption | omega | decide +kernel)) | ((with_reducible refine Br.tt ?_ ?_); (first | assumption | decide +kernel)) | ((with_reducible refine Br.ff ?_ ?_); (first | assumption | decide +kernel)) | ((with_reducible refine Ok.isi_tup (p := true) ?_ ?_); decide +kernel) | ((with_reducible refine Ok.isi_tup (p := false) ?_ ?_); decide +kernel) | ((with_reducible refine Ok.isi_int (p := true) ?_ ?_); decide +kernel) | ((with_reducible refine Ok.isi_int (p := false) ?_ ?_); decide +kernel) | ((with_reducible refine Ok.isi_str (p := true) ?_ ?_); decide +kernel) | ((with_reducible refine Ok.isi_str (p := false) ?_ ?_); decide +kernel) | ((with_reducible refine Ok.isi_lst (p := true) ?_ ?_); decide +kernel) | ((with_reducible refine Ok.isi_lst (p := false) ?_ ?_); decide +kernel) | ((with_reducible refine Ok.isi_bl (p := true) ?_ ?_); decide +kernel) | ((with_reducible refine Ok.isi_bl (p := false) ?_ ?_); decide +kernel) | ((with_reducible refine Ok.isi_non (p := true) ?_ ?_); decide +kernel) | ((with_reducible refine Ok.isi_non (p := false) ?_ ?_); decide +kernel) | ((with_reducible refine Ok.isi_ctu (p := true) ?_ ?_); decide +kernel) | ((with_reducible refine Ok.isi_ctu (p := false) ?_ ?_); decide +kernel) | ((with_reducible refine Ok.isi_emp (p := true) ?_ ?_); decide +kernel) | ((with_reducible refine Ok.isi_emp (p := false) ?_ ?_); decide +kernel)))
section
variable {S : Store} {QD : D → Store → Prop} {n m b : Nat} {w size : Int} {tc tp tm tt : Tab} {deep : Str} {ks : List Str} {mode : Str} {r r2 : List Ky}
end
end DL.Lf
namespace DL.Lf
open PySem PySem.Spec PyProof.Rows L2 DL
/-! ### swap ahead of a product changes nothing -/
section
variable {m n : Nat} {w : Int} {tc tp tm tt : Tab} {deep : Str} {ks : List Str} {l : List Pol} {mode : Str} {r : List Ky}
end
end DL.Lf
namespace DL
open PySem PySem.Spec PyProof.Rows L2
/-! ### set(texts) of any length, made of the library's steps of set.__init__ -/
/-- how many unlike ones there are among the first i -/
def unl (val : Nat → Str) : Nat → Nat
  | 0 => 0
  | i + 1 => if (List.range i).any (fun j => decide (val j = val i)) = true then unl val i else unl val i + 1
/-- the first i of them -/
def amg (val : Nat → Str) (i : Nat) (k : Str) : Bool := (List.range i).any fun j => decide (val j = k)
section
variable {prog : Program} {w : World} {A : Around} {R : Result → Shared → Prop} {I : Addr} {fp wr : List Addr} {G : Array GenState → Array GenState → Prop} {n : Nat} {P : Nat → Value → Prop} {St : Nat → Shared → Prop}
end
section
variable {prog : Program} {w : World} {A : Around} {E : Value → Shared → Prop} {s : Shared}
end
end DL
namespace DL
open PySem PySem.Spec PyProof.Rows L2
/-! ### len(set(texts)) -/
/-- a set of texts at a -/
def SetS (P : Program) (w : World) (a : Addr) (S : Str → Bool) (n : Nat) : HO := .ext fun h => h.SetOf (strKind P w) a S n
theorem vals_texts : ∀ {ts : List Str} {us : List Value}, Vals (ts.map V.str) us → StrsAre us ts
  | [], _, h => by cases h; exact .nil
  | t :: ts, _, h => by
    cases h with
    | cons r hs =>
      obtain ⟨k, rfl⟩ := r
      exact .cons t k (vals_texts hs)
/-- how many unlike texts -/
def unls (ts : List Str) : Nat := unl (fun i => ts.getD i Str.empty) ts.length
def rSetS (K : PySem.W.Frag) (P : Program) (w : World) : List V → Hp → VK → Prop := fun xs H Q => ∃ (l : Addr) (ts : List Str), xs = [V.ref l] ∧ SqT K H l (ts.map V.str) ∧ ts.length ≤ 1000 ∧ ∀ p, H p = none → Q (.ref p) (upd H p (SetS P w p (amg (fun i => ts.getD i Str.empty) ts.length) (unls ts)))
def rLenS (P : Program) (w : World) : List V → Hp → VK → Prop := fun xs H Q => ∃ (a : Addr) (S : Str → Bool) (n : Nat), xs = [V.ref a] ∧ H a = some (SetS P w a S n) ∧ n ≤ 1000 ∧ Q (.int n) H
section
variable {X : Cx}
end
def txts : List D → Option (List Str)
  | [] => some []
  | .str s :: r => (txts r).map (s :: ·)
  | _ :: _ => none
def lsetD (xs : List D) : M D := fun S => match xs with
  | [.ctu l] => (match txts l with
    | some ts => if ts.length ≤ 1000 then .ok (.int (unls ts : Nat)) S else .bad
    | none => .bad)
  | _ => .bad
section
variable {X : Cx} {W : WE} {e : Expr} {fs : List (Frame → M D)} {p p1 p2 q : Pos}
end
end DL
namespace DL
open PySem PySem.Spec PyProof.Rows L2 HT
open SeqAt (shaped)
/-! ### tuples that are known to hang no dict: t + u, t.index(text) -/
def rCatP (K : PySem.W.Frag) : R2 := fun x y H Q => ∃ a b xs ys, x = .ref a ∧ y = .ref b ∧ SqT K H a xs ∧ SqT K H b ys ∧ xs.length + ys.length ≤ sizeLine ∧
  (xs = [] → Q (.ref b) H) ∧ (xs ≠ [] → ys = [] → Q (.ref a) H) ∧ (xs ≠ [] → ys ≠ [] → ∀ p (o : Obj), H p = none → o.dict = none → Q (.ref p) (upd H p (.frz o (.tup (xs ++ ys)))))
section
variable {X : Cx} {W : WE} {a b c e o : Expr} {pos apos cpos : Pos} {fa fb fc : Frame → M D} {es : List Expr} {fs : List (Frame → M D)}
def addP (x y : D) : M D := fun S => match ptuL x, ptuL y with
  | some l, some m => if l.length + m.length ≤ sizeLine then .ok (.ptu (l ++ m)) S else .bad
  | _, _ => .bad
def idxP (d : D) (xs : List D) : M D := fun S => match xs with
  | [.str z] => (match (ptuL d).bind txts with
    | some ts => if z ∈ ts then .ok (.int (ts.idxOf z : Nat)) S else .bad
    | none => .bad)
  | _ => .bad
end
end DL
namespace DL
open PySem PySem.Spec PyProof.Rows L2 HT
/-! ### the lowest bit, halves, a list turned about, calls without arguments -/
section
variable {X : Cx} {W : WE} {a : Expr} {fa : Frame → M D} {j : Nat} {p1 p2 p3 pos : Pos}
def oddD (x y : D) : M D := fun S => match x, y with
  | .int i, .int k => if 0 ≤ i ∧ k = 1 then .ok (.int (i % 2)) S else .bad
  | _, _ => .bad
def halfD (x y : D) : M D := fun S => match x, y with
  | .int i, .int k => if 0 ≤ i ∧ k = 1 then .ok (.int (i / 2)) S else .bad
  | _, _ => .bad
def turnL (x : D) : M D := fun S => match lstL S x with
  | some l => .ok (.lst l.reverse) S
  | none => .bad
end
section
variable {X : Cx} {W : WE} {N : List Str} {sc : Scope} {b : Option Scope} {k : Nat} {x : Str} {p pos : Pos}
end
end DL
namespace DL
open PySem PySem.Spec PyProof.Rows L2 HT
/-! ### sum of a tuple of ints -/
def rSumT (K : PySem.W.Frag) : List V → Hp → VK → Prop := fun xs H Q => ∃ (a : Addr) (ns : List Int), xs = [V.ref a] ∧ SqT K H a (ns.map V.int) ∧ Q (.int ns.sum) H
section
variable {X : Cx} {W : WE}
def sumT (xs : List D) : M D := fun S => match xs with
  | [.tup l] => (match intsL l with
    | some ns => .ok (.int ns.sum) S
    | none => .bad)
  | _ => .bad
end
end DL
namespace DL
open PySem PySem.Spec PyProof.Rows L2 HT
/-! ### zip of tuples of any make -/
def zipC (l : List D) : M Src := fun S => match l with
  | [.ctu l, .ctu m] => .ok (fun _ => some (zipL l m)) S
  | _ => .bad
section
variable {X : Cx} {W : WE} {e e2 : Expr} {pos p kpos tpos : Pos} {fs : List (Frame → M D)} {elts : List Expr}
end
end DL
namespace DL
open PySem PySem.Spec PyProof.Rows L2
/-! ### zip of a tuple and a list -/
def It2 (K : PySem.W.Frag) (a b : Addr) (xs ys : List V) : It :=
  ⟨fun i H => (SqT K H a xs ∧ SqL K H b ys) ∧ i < min xs.length ys.length,
    fun i H v H' => ∃ T x y, v = .ref T ∧ H T = none ∧ H' = upd H T (.tup [x, y]) ∧ xs[i]? = some x ∧ ys[i]? = some y,
    fun i H => (SqT K H a xs ∧ SqL K H b ys) ∧ min xs.length ys.length ≤ i⟩
section
variable {X : Cx} {W : WE} {elts : List Expr} {kk : Nat} {tpos : Pos}
/-- for .. in zip(t, l) -/
def iZip2 (K : PySem.W.Frag) (ta : TA) : TI := fun σ H R => ta σ H fun vs H1 => ∃ a b xs ys, vs = [.ref a, .ref b] ∧ (SqT K H1 a xs ∧ SqL K H1 b ys) ∧ R (It2 K a b xs ys) H1
/-! in the layer -/
def tupA : D → Option (List D)
  | .tup l => some l
  | .ctu l => some l
  | .ptu l => some l
  | _ => none
def zipX (l : List D) : M Src := fun S => match l with
  | [x, .lst m] => (match tupA x with
    | some l => .ok (fun _ => some (zipL l m)) S
    | none => .bad)
  | _ => .bad
def modN (x y : D) : M D := fun S => match x, y with
  | .int i, .int j => if j ≠ 0 then .ok (.int (i.fmod j)) S else .bad
  | _, _ => .bad
end
end DL
namespace DL
open PySem PySem.Spec PyProof.Rows L2
open PySem.Builtin PySem.Builtin.Str PySem.Builtin.Int
/-! ### repr of ints up to 4300 digits -/
mutual
def shG : PyData → Bool
  | .none | .bool _ | .str _ => true
  | .int i => decide (i.natAbs < 10 ^ 4300)
  | .list xs | .tuple xs => shGs xs
  | _ => false
def shGs : List PyData → Bool
  | [] => true
  | x :: xs => shG x && shGs xs
end
def reprG (xs : List D) : M D := fun S => match xs with
  | [d] => (match pyS S d with
    | some p => if shG p = true ∧ p.depth ≤ 60 ∧ p.shown.length ≤ sizeLine then .ok (.str p.shown) S else .bad
    | none => .bad)
  | _ => .bad
/-- no limit of digits has been set -/
def DgX (X : Cx) : Prop := X.base.NoDigits
section
variable {prog : Program} {w : World} {A : Around} {E : Value → Shared → Prop} {s : Shared} {a : Int} {t : Tok}
end
section
variable {prog : Program} {w : World} {h₀ : Heap}
variable {A : Around} {E : Value → Shared → Prop} {s : Shared} {Q : Value → Shared → Prop}
end
section
variable {X : Cx} {W : WE}
end
/-! the law's run, no limit of digits being set -/
def LawRunG (P : Program) (w : World) (K : PySem.W.Frag) (mg : Str → Option Value) (fa : Addr) : Prop :=
  ∀ (base : Heap) (s : Shared) (H : Hp) (a : Addr) (ns : List Int), K.In base → base.Ns mainGlobals mg → base.NoDigits → Env0 P w K mg base callerA [] s H → Ls K H a (ns.map V.int) → ns.length ≤ 63 →
    codeAny (model P w) callerA (.call (.ref fa) ⟨[.ref a], []⟩) (CR CX0 [] P w H s (fun v _ => v = .bl true) E0) s
end DL

namespace DL
open PySem PySem.Spec PyProof.Rows L2
/-! ### sorted(d), d a dict with tuple keys -/
section
open PySem.W PySem.Calls
variable {prog : Program} {w : World} {A : Around} {E : Value → Shared → Prop} {s : Shared} {β : Type} {bs : List β} {enc : β → PyData} {R : Value → β → Prop}
/-- a new list, sorted -/
theorem sort_new {vs : List Value} {Q : Value → Shared → Prop} {h0 : Heap} {a : Addr} (ho : s.heap.get? a = some (seqObj "list" vs.toArray 0)) (hlt : ∀ b o, h0.get? b = some o → b ≠ a ∧ s.heap.get? b = some o)
    (e : EachIs R vs bs) (er : EachIs (fun v b => ∃ as, Reads h0 v (enc b) as) vs bs) (hal : AllAlike (bs.map enc)) (hk : Sortable (bs.map enc)) (hL : bs.length ≤ sizeLine)
    (hu : ∀ b, b ∈ bs → A.units + 1 + (enc b).depth < cLine) (h : ∀ out, out.length = bs.length → EachIs R out (bs.mergeSort (dataLe false enc)) → Q .none { s with heap := sortedHeap s.heap a vs (List.toArray out) }) :
    wpAny (model prog w) A (call (.builtin "list.sort") [.ref a]) Q E s := by
  have er' : EachIs (fun v b => ∃ as, Reads (sortingHeap s.heap a vs) v (enc b) as) vs bs := er.mono fun _ _ ⟨as, r⟩ => ⟨as, PyProof.Rows.Reads.keeps (fun b o q => sortingHeap_old (hlt b o q).1 (hlt b o q).2) r⟩
  refine wpAny_call_entry slot_list_sort ⟨_, ho, rfl⟩ entry_list_sort (list_sort_vals (κ := dataKind (sortingHeap s.heap a vs) (bs.map enc)) ho (SortsAt.data (s := { s with heap := sortingHeap s.heap a vs }) (each_map (R := fun v d => ∃ as, Reads (sortingHeap s.heap a vs) v d as) enc er') hal hk (bound_map hu)) (by rw [e.length]; exact hL) ⟨.none, rfl, ?_⟩) (args_list_sort _)
  exact h _ (by rw [sortVals_length false rfl]; exact e.length) (sortVals_data false e er' hal)
theorem items_eq {n : Nat} {acc : Array Value} {its : List Value} (h : ItemsOf (fun i v => its[i]? = some v) acc n) (hl : its.length = n) : acc.toList = its := by
  refine List.ext_getElem? fun i => ?_
  by_cases hi : i < n
  · have hs : acc.size = n := h.1
    have e1 : acc[i]? = some acc[i] := Array.getElem?_eq_getElem (by omega)
    rw [Array.getElem?_toList, e1]
    exact (h.2 i _ e1).symm
  · have hs : acc.size = n := h.1
    rw [List.getElem?_eq_none (by rw [Array.length_toList]; omega), List.getElem?_eq_none (by omega)]
/-- sorted(x), where collecting x gives the values its -/
theorem sorted_of_collect {x : Value} {its : List Value} {Q : Value → Shared → Prop}
    (hc : ∀ P : List Value → Shared → Prop, (∀ h' tk, (∀ b o, s.heap.get? b = some o → h'.get? b = some o) → P its { s with heap := h', toks := tk }) → wpAny (model prog w) A.in1 (collect x) P E s)
    (e : EachIs R its bs) (er : EachIs (fun v b => ∃ as, Reads s.heap v (enc b) as) its bs) (hal : AllAlike (bs.map enc)) (hk : Sortable (bs.map enc)) (hL : bs.length ≤ sizeLine)
    (hu : ∀ b, b ∈ bs → A.units + 2 + (enc b).depth < cLine)
    (h : ∀ (h' hf : Heap) tk c out, (∀ b o, s.heap.get? b = some o → h'.get? b = some o) → (∀ b o, h'.get? b = some o → hf.get? b = some o) → hf.get? h'.objs.size = some (seqObj "list" (List.toArray out) c) → out.length = bs.length → EachIs R out (bs.mergeSort (dataLe false enc)) → Q (.ref h'.objs.size) { s with heap := hf, toks := tk }) :
    wpAny (model prog w) A (call (.builtin "sorted") [x]) Q E s := by
  refine call_function_entry kind_sorted plain_sorted entry_sorted (args_sorted1 _) ?_
  unfold Builtin.«sorted»
  refine wpAny_bind (m := checkCount "sorted" 1 1 _) (wpAny_pure ?_)
  refine wpAny_bind (hc _ fun h' tk keep => ?_)
  refine wpAny_bind (wpAny_newList ?_ (by rw [e.length]; exact hL))
  refine wpAny_bind (wpAny_holding (wpAny_mono (sort_new (A := A.in1) (s := { s with heap := h'.push (seqObj "list" its.toArray 0), toks := tk }) (h0 := s.heap) (a := h'.objs.size) (Q := fun _ s' => Q (.ref h'.objs.size) s') (Heap.get?_push_size _ rfl) (fun b o q => ⟨Nat.ne_of_lt (Heap.lt_size (keep b o q)), Heap.get?_push_of_some _ (keep b o q)⟩) e er hal hk hL
    (fun b hb => by show A.units + 1 + 1 + _ < cLine; have := hu b hb; omega) fun out ol eo => ?_) (fun _ s' x => ?_) fun _ _ e => e))
  · obtain ⟨c, hcc⟩ := sortedHeap_at (h := h'.push (seqObj "list" its.toArray 0)) (a := h'.objs.size) (vs := its) (n := 0) (out := List.toArray out) (Heap.get?_push_size _ rfl)
    refine h _ _ _ c out keep (fun b o q => ?_) hcc ol eo
    have hb := Heap.lt_size q
    rw [sortedHeap_old (Nat.ne_of_lt hb) (by rw [Heap.size_push]; exact Nat.lt_succ_of_lt hb)]
    exact Heap.get?_push_of_some _ q
  · exact wpAny_pure ⟨_, rfl, x⟩
end
def oDtL : Option (Option O) → Option (List (List Key × D))
  | some (some (.dt l)) => some l
  | _ => none
theorem oDtL_of {x : Option (Option O)} {l : List (List Key × D)} (h : oDtL x = some l) : x = some (some (.dt l)) := by
  unfold oDtL at h
  split at h
  · cases h; rfl
  · cases h
def keysT (l : List (List Key × D)) : List D := l.map fun e => .tup (e.1.map kD)
def sortedT (xs : List D) : M D := fun S => match xs with
  | [.ob n] => (match oDtL S[n]? with
    | some l => (match pys (keysT l) with
      | some ps => if sortOk ps then .ok (.lst ((keysT l).mergeSort leX)) S else .bad
      | none => .bad)
    | none => .bad)
  | _ => .bad
section
variable {X : Cx} {W : WE}
theorem rps_keys {K : PySem.W.Frag} {ι : List Addr} {H : Hp} : ∀ k : List Key, Rps K ι H (k.map kD) (k.map kV)
  | [] => rfl
  | k :: r => ⟨_, _, rfl, by cases k <;> rfl, rps_keys r⟩
theorem keys_of {K : PySem.W.Frag} {ι : List Addr} {H : Hp} : ∀ {l : List (List Key × D)} {vs : List (List Key × V)} {xs : List (List Key × Addr × Value)}, Rkv K ι H l vs → KT H vs xs → ∃ ws, Rps K ι H (keysT l) ws ∧ Vals ws (xs.map fun x => Value.ref x.2.1)
  | [], vs, xs, r, q => by
    cases r
    cases q
    exact ⟨[], rfl, .nil⟩
  | (k, d) :: l, vs, xs, r, q => by
    obtain ⟨v, r2, rfl, rv, rr⟩ := r
    cases q with
    | @cons _ b _ bs h t =>
      obtain ⟨ws, w1, w2⟩ := keys_of rr t
      refine ⟨.ref b.2.1 :: ws, ⟨_, _, rfl, ⟨b.2.1, _, rfl, h.2.1, rps_keys _⟩, w1⟩, .cons rfl w2⟩
theorem C_sortedT (hc : X.calm = true) (hu : X.A.units + 64 < cLine) : CalD X W (.builtin "sorted") sortedT := by
  refine CalD.base fun pins s σ H xs us Q ι S ds e I rx hS r h => ?_
  unfold sortedT at h
  split at h
  · rename_i n
    obtain ⟨v, wr, rfl, r1, r2⟩ := r
    cases r2
    obtain ⟨u, rfl, ru⟩ := vals1 rx
    split at h
    · rename_i l hl
      split at h
      · rename_i ps hp
        split at h
        · rename_i ok
          obtain ⟨a, e1, vs, hH, hkv⟩ := hS.obj n _ (oDtL_of hl)
          obtain ⟨a', ea, e2⟩ := r1
          rw [e2] at e1
          cases e1
          subst ea
          obtain rfl : u = Value.ref a := ru
          obtain ⟨z, hd, xs', rel, o, es, ep, ho, hx, hdat, hes, his, hn⟩ := dt_of I.hok hH
          have l0 : vs.length = xs'.length := Paired.length rel
          have l1 : es.size = xs'.length := size_of_entries hes
          have ek : es.toList.map (fun e => e.key) = xs'.map fun x => Value.ref x.2.1 := by rw [hes, List.map_map]; rfl
          obtain ⟨ws, hr, rv⟩ := keys_of hkv rel
          rw [← ek] at rv
          generalize hits : es.toList.map (fun e => e.key) = its at rv
          have hil : its.length = es.size := by rw [← hits, List.length_map, Array.length_toList]
          have el : ws.length = its.length := rv.length
          have e0 := hr.length
          obtain ⟨as, rd⟩ := pys_reads I _ ws its ps hr rv hp
          have ep' := pys_map hp
          have em : (ws.zip (keysT l)).map (fun b : V × D => pyd b.2) = ps := by
            rw [show (fun b : V × D => pyd b.2) = pyd ∘ (fun b : V × D => b.2) from rfl, ← List.map_map, zip_snd hr, ep']
          have zl : (ws.zip (keysT l)).length = ps.length := by rw [← em, List.length_map]
          have rd2 : ReadsAll s.heap its ((ws.zip (keysT l)).map fun b : V × D => pyd b.2) as := by rw [em]; exact rd
          obtain ⟨al, so⟩ := sortOk_at ok
          refine sorted_of_collect (x := .ref a) (its := its) (enc := fun b : V × D => pyd b.2) (fun P hP => ?_) (each_zip hr rv) (PySem.W.readsAll_each _ rd2) (by rw [em]; exact al) (by rw [em]; exact so) (by rw [zl, sizeLine_eq]; have := ok.2.2.2; omega) (fun b hb => ?_) fun h' hf tk c out keep keep2 hat ol eo => ?_
          · refine PySem.W.kdu_collect (A := X.A.in1) (PySem.KdlSrc.rawDict (es := es) (ep := ep) hd) (I.ok.hd hc) ⟨o, ho, hx, hdat⟩ (by omega) fun h' tk acc hk hacc => ?_
            have : acc.toList = its := items_eq (n := es.size) ⟨hacc.1, fun i v hv => by
              obtain ⟨hi, e⟩ := hacc.2 i v hv
              rw [← hits, List.getElem?_map, Array.getElem?_toList, Array.getElem?_eq_getElem hi, e]
              rfl⟩ hil
            rw [this]
            exact hP h' tk hk
          · have hm : pyd b.2 ∈ ps := by rw [← em]; exact List.mem_map.mpr ⟨b, hb, rfl⟩
            have := depth_mem hm
            have := ok.2.2.1
            omega
          · obtain ⟨o1, o2⟩ := each_out eo
            have e3 : ((ws.zip (keysT l)).mergeSort (PySem.W.dataLe false fun b : V × D => pyd b.2)).map (·.2) = (keysT l).mergeSort leX := by
              rw [List.map_mergeSort (r := PySem.W.dataLe false fun b : V × D => pyd b.2) (s := leX) (f := fun b : V × D => b.2) (fun a _ b _ => rfl), zip_snd hr]
            rw [e3] at o2
            have e4 : ((ws.zip (keysT l)).mergeSort (PySem.W.dataLe false fun b : V × D => pyd b.2)).length = ws.length := by
              rw [List.length_mergeSort, List.length_zip, ← e0]; simp
            have I2 : Inv X pins σ H { s with heap := h', toks := tk } := I.kept keep
            have hp0 : H h'.objs.size = none := I2.hok.fresh (Nat.le_refl _)
            have I3 := I2.laid (t' := tk) (a := h'.objs.size) (o := .frz { cls := .type "list", data := .seq (List.toArray out) c } (.lst (((ws.zip (keysT l)).mergeSort (PySem.W.dataLe false fun b : V × D => pyd b.2)).map (·.1)))) keep2 (Nat.le_refl _)
              (show ObjOk X.prog X.w _ _ _ (.frz _ (.lst _)) from ⟨hat, by rw [List.length_map, e4]; omega, out, c, o1, hat⟩)
            have m : Mn ι H ι (upd H h'.objs.size (.frz { cls := .type "list", data := .seq (List.toArray out) c } (.lst (((ws.zip (keysT l)).mergeSort (PySem.W.dataLe false fun b : V × D => pyd b.2)).map (·.1))))) := Mn.fresh hp0
            exact ⟨.ref h'.objs.size, _, I3, rfl, h _ _ m (hS.fresh hp0) _ ⟨_, _, rfl, .inl ⟨_, upd_same⟩, m.rps o2⟩⟩
        · exact h.bad
      · exact h.bad
    · exact h.bad
  · exact h.bad
end
end DL

namespace DL
open PySem PySem.Spec PyProof.Rows L2
/-! ### texts joined and split -/
def strsO : List D → Option (List Str)
  | [] => some []
  | .str a :: r => (strsO r).map (a :: ·)
  | _ => none
def joinD (d : D) (xs : List D) : M D := fun S => match d, xs with
  | .str a, [x] => (match (seqL S x).bind strsO with
    | some ys => if (ys.map (·.length)).sum + ys.length * a.length ≤ 16777216 then .ok (.str (Txt.join a ys)) S else .bad
    | none => .bad)
  | _, _ => .bad
def splitD (d : D) (xs : List D) : M D := fun S => match d, xs with
  | .str a, [.str b] => if (b.length == 0) = false ∧ a.length + 2 ≤ sizeLine then .ok (.lst ((Txt.split a b).map .str)) S else .bad
  | _, _ => .bad
section
variable {X : Cx} {W : WE}
variable {o e : Expr} {es : List Expr} {apos cpos : Pos} {fa : Frame → M D} {fs : List (Frame → M D)}
end
end DL
namespace DL
open PySem PySem.Spec PyProof.Rows L2
/-! ### tests in a clause's suite: isinstance, and; a if t else b -/
def trB (K : PySem.W.Frag) (mg : Str → Option Value) (i : Nat) (a : Addr) (cls : Value) (d : Option Addr) (x : Exc) (o : Option Bool) : TT := fun σ H Q => ∃ ι fr S b, HX K mg i a cls d x ι fr S σ H ∧ o = some b ∧ Q b H
def DQt (X : Cx) (i : Nat) (o : Exc → Option Bool) (e : Expr) : Prop :=
  ∀ (a : Addr) (oe : Obj) (cls : Value) (d : Option Addr) (pn : List (Addr × Obj)) (x : Exc), Zc cls d oe → (∃ vs, oe.data = .fields vs) → PT (Hld X a oe pn) e (trB X.K X.mg i a cls d x (o x))
def DQw (X : Cx) (i : Nat) (o : Exc → Option Bool) (e : Expr) : Prop :=
  ∀ (a : Addr) (oe : Obj) (cls : Value) (d : Option Addr) (pn : List (Addr × Obj)) (x : Exc), Zc cls d oe → (∃ vs, oe.data = .fields vs) → PW (Hld X a oe pn) e (trB X.K X.mg i a cls d x (o x))
def blB : D → Option Bool
  | .bl b => some b
  | _ => none
def tstB (o : Exc → Option D) : Exc → Option Bool := fun x => (o x).bind blB
def andB (o p : Exc → Option Bool) : Exc → Option Bool := fun x => match o x with
  | some true => p x
  | some false => some false
  | none => none
def orB (o p : Exc → Option Bool) : Exc → Option Bool := fun x => match o x with
  | some true => some true
  | some false => p x
  | none => none
def notB (o : Exc → Option Bool) : Exc → Option Bool := fun x => (o x).map (!·)
def iteB (o : Exc → Option Bool) (f g : Exc → Frame → M D) : Exc → Frame → M D := fun x fr => match o x with
  | some true => f x fr
  | some false => g x fr
  | none => bad
section
variable {X : Cx} {i : Nat} {e : Expr} {o p : Exc → Option Bool} {a b : Expr} {rest : List Expr} {pos : Pos}
end
end DL
namespace DL
open PySem PySem.Spec PyProof.Rows L2
end DL
namespace DL
open PySem PySem.Spec PyProof.Rows L2
/-! ### list(text), text[a:b] -/
def chs (z : Str) : List Str := z.cps.toList.map fun c => (⟨#[c]⟩ : Str)
def listS (xs : List D) : M D := fun S => match xs with
  | [.str z] => if z.length ≤ sizeLine then .ok (.lst ((chs z).map .str)) S else .bad
  | _ => .bad
def sliS (x : D) (lo hi : Option Int) : M D := fun S => match x with
  | .str z => if z.length ≤ sizeLine then .ok (.str (cutS z lo hi)) S else .bad
  | _ => .bad
section
variable {X : Cx} {W : WE}
variable {a : Expr} {fa : Frame → M D} {pos p2 : Pos} {o1 o2 : Option Expr} {f1 f2 : Option (Frame → M D)}
end
end DL
namespace DL
open PySem PySem.Spec PyProof.Rows L2
local macro_rules | `(tactic| and_intros) => `(tactic| repeat (first | with_reducible refine StpA.go ?_ | with_reducible refine StpB.go ?_ | ((with_reducible refine Ok.var ?_); refine ⟨_, rfl, ?_⟩) | ((with_reducible refine Fr.go ?_); intro fr_ e_; simp only [List.set_cons_zero, List.set_cons_succ, setAll, wipeF] at e_; subst e_) | ((with_reducible refine Ok.tgT ?_ ?_); (exact rfl)) | ((with_reducible refine Ok.tgQt ?_ ?_); (exact rfl)) | ((with_reducible refine Ok.tgQl ?_ ?_); (exact rfl)) | with_reducible refine Ok.tupP ?_ | with_reducible refine Ok.tupleP ?_ | ((with_reducible refine Ok.isi_ptu (p := true) ?_ ?_); decide +kernel) | ((with_reducible refine Ok.isi_ptu (p := false) ?_ ?_); decide +kernel) | with_reducible refine ItQ.ptu ?_ | with_reducible refine SrcQ.ptu ?_ | with_reducible refine Ok.len_p ?_ | with_reducible refine Ok.sli_tail ?_ | ((with_reducible refine OkS.aug ?_); refine ⟨_, rfl, ?_⟩) | ((with_reducible refine Ok.ix_t ?_); refine ⟨_, rfl, ?_⟩) | ((with_reducible refine Ok.ix_l ?_); refine ⟨_, rfl, ?_⟩) | ((with_reducible refine Ok.tgT ?_ ?_); exact rfl) | with_reducible refine Ok.sli_t ?_ | with_reducible refine Ok.sli_l ?_ | ((with_reducible refine Ok.mod_ii ?_ ?_); (first | decide | (simp; done) | (simp; omega))) | ((with_reducible refine Ok.add_tt ?_ ?_); (first | decide | (simp; done) | (simp; omega))) | ((with_reducible refine Ok.add_ll ?_ ?_); (first | decide | (simp; done) | (simp; omega))) | ((with_reducible refine Ok.add_ss ?_ ?_); (first | decide | (simp; done) | (simp; omega))) | ((with_reducible refine Ok.rng1 ?_ ?_); (first | decide | omega | (simp; omega))) | ((with_reducible refine Br.dt ?_ ?_); (first | assumption | exact rfl | omega | decide +kernel)) | ((with_reducible refine Br.df ?_ ?_); (first | assumption | omega | decide +kernel)) | ((with_reducible refine Br.tt ?_ ?_); (first | assumption | decide +kernel)) | ((with_reducible refine Br.ff ?_ ?_); (first | assumption | decide +kernel)) | ((with_reducible refine Ok.isi_tup (p := true) ?_ ?_); decide +kernel) | ((with_reducible refine Ok.isi_tup (p := false) ?_ ?_); decide +kernel) | ((with_reducible refine Ok.isi_int (p := true) ?_ ?_); decide +kernel) | ((with_reducible refine Ok.isi_int (p := false) ?_ ?_); decide +kernel) | ((with_reducible refine Ok.isi_str (p := true) ?_ ?_); decide +kernel) | ((with_reducible refine Ok.isi_str (p := false) ?_ ?_); decide +kernel) | ((with_reducible refine Ok.isi_lst (p := true) ?_ ?_); decide +kernel) | ((with_reducible refine Ok.isi_lst (p := false) ?_ ?_); decide +kernel) | ((with_reducible refine Ok.isi_bl (p := true) ?_ ?_); decide +kernel) | ((with_reducible refine Ok.isi_bl (p := false) ?_ ?_); decide +kernel) | ((with_reducible refine Ok.isi_non (p := true) ?_ ?_); decide +kernel) | ((with_reducible refine Ok.isi_non (p := false) ?_ ?_); decide +kernel) | ((with_reducible refine Ok.isi_ctu (p := true) ?_ ?_); decide +kernel) | ((with_reducible refine Ok.isi_ctu (p := false) ?_ ?_); decide +kernel) | ((with_reducible refine Ok.isi_emp (p := true) ?_ ?_); decide +kernel) | ((with_reducible refine Ok.isi_emp (p := false) ?_ ?_); decide +kernel)))
section
variable {S : Store} {QD : D → Store → Prop} {n m q : Nat} {x : D} {l : List D}
end
/-! ### texts of words -/
structure Tx (N : Nat) (z : Str) : Prop where
  len : z.length ≤ N
  ok : PyData.strOk z = true
section
variable {S : Store} {QD : D → Store → Prop} {a : Str} {ws : List Str}
end
end DL
namespace DL
open PySem PySem.Spec PyProof.Rows L2
/-! ### a list of the store that is changed no more: locked -/
def frzD (x : D) : M D := fun S => match x with
  | .ob n => (match S[n]? with
    | some (some (.lst l)) => .ok (.lst l) (S.set n none)
    | _ => .bad)
  | _ => .bad
section
variable {X : Cx} {W : WE} {e : Expr} {fa : Frame → M D}
end
end DL
namespace DL
open PySem PySem.Spec PyProof.Rows L2
/-! ### int of texts of up to 4300 digits -/
/-- int(..) of texts of any length up to 4300 digits -/
def intG (xs : List D) : M D := fun S => match xs with
  | [.int i] => .ok (.int i) S
  | [.bl b] => .ok (.int (if b then 1 else 0)) S
  | [.str z] => (match PySem.intText? z with
    | some n => if (z.length ≤ 640 ∨ 640 < (numSeenOf z).length) ∧ z.length ≤ sizeLine then .ok (.int n) S else .bad
    | none => .bad)
  | _ => .bad
/-! ### a text many times -/
section
variable {X : Cx} {W : WE}
noncomputable def mulQ (x y : D) : M D := fun S => match x, y with
  | .str a, .int k => if 2 ≤ k ∧ k ≤ 10000 ∧ 1 ≤ a.length ∧ a.length ≤ 100 then .ok (.str (repS a k.toNat)) S else .bad
  | _, _ => .bad
end
/-! ### what is never reached -/
def badE : Frame → M D := fun _ => bad
/-! ### list.index of texts -/
def lixD (d : D) (xs : List D) : M D := fun S => match d, xs with
  | .lst l, [.str a] => (match strsOf l with
    | some ys => if ys.idxOf a < ys.length then .ok (.int (ys.idxOf a : Nat)) S else .bad
    | none => .bad)
  | _, _ => .bad
section
variable {X : Cx} {W : WE} {e o : Expr} {es : List Expr} {apos cpos : Pos} {fa : Frame → M D} {fs : List (Frame → M D)}
/-! ### l.extend(m): two lists of the store -/
def extD (d : D) (xs : List D) : M D := fun S => match d, xs with
  | .ob n, [.ob m] => (match oLst S[n]?, oLst S[m]? with
    | some l, some l2 => if l.length + l2.length ≤ sizeLine then .ok .non (S.set n (some (.lst (l ++ l2)))) else .bad
    | _, _ => .bad)
  | _, _ => .bad
end
end DL
namespace DL
open PySem PySem.Spec PyProof.Rows L2
open SeqAt (shaped)
/-! ### len, str and == of instances, by their own methods -/
section
variable {X : Cx} {W : WE} {CX : CXT} {pins : List (Addr × Obj)} {σ : L2.St} {H : Hp} {s : Shared} {Q : VK} {us : List Value} {vs : List V} {k : Nat} {f C a dx : Addr} {fd : FuncData} {ps : List Str} {sp : Sp} {E : XK} {fs : List (Str × V)}
end
/-! mirrors of them -/
def lenO (c : Str) (F : List D → M D) (xs : List D) : M D := fun S => match xs with
  | [d] => (match insS S d with
    | some (_, c', _) => if c' = c then (match nox (F [d]) S with
      | .ok (.int i) S' => if 0 ≤ i ∧ i < 2 ^ 63 then .ok (.int i) S' else .bad
      | _ => .bad) else .bad
    | none => lenD [d] S)
  | _ => .bad
def strO (c : Str) (F : List D → M D) (xs : List D) : M D := fun S => match xs with
  | [d] => (match insS S d with
    | some (_, c', _) => if c' = c then (match nox (F [d]) S with
      | .ok (.str i) S' => .ok (.str i) S'
      | _ => .bad) else .bad
    | none => strD [d] S)
  | _ => .bad
def eqO (c : Str) (F : List D → M D) (x y : D) : M D := fun S => match insS S x with
  | some (_, c1, _) => (match insS S y with
    | some (_, c2, _) => if c1 = c ∧ c2 = c then nox (F [x, y]) S else .bad
    | none => .bad)
  | none => eqD x y S
section
variable {X : Cx} {W : WE} {j : Nat} {c : Str} {F : List D → M D}
end
end DL
namespace DL
open PySem PySem.Spec PyProof.Rows L2
open SeqAt (shaped)
/-! ### methods that may raise -/
section
variable {X : Cx} {CX : CXT} {k : Nat} {g C : Addr} {fd : FuncData} {ps : List Str} {sp : Sp} {dvs : List V} {ds : List Value} {E : L2.St → XK} {m : Str} {p pos apos : Pos} {o e : Expr} {es : List Expr} {ta : TE} {t : TA}
def tMethSD (C : Addr) (m : Str) (sp : Sp) (dvs : List V) (E : L2.St → XK) (ta : TE) (t : TA) : TE := fun σ H Q => ta σ H fun x H1 => ∃ a dx fs, x = .ref a ∧ H1 a = some (.ins C dx fs) ∧ fs.lookup m = none ∧
  t σ H1 fun vs H2 => sp (x :: (vs ++ dvs)) H2 Q (E σ)
end
/-- a method of one class, which may raise -/
def mtdX (m c : Str) (G : List D → M D) (fo : Frame → M D) (fs : List (Frame → M D)) : Frame → M D := fun fr => bnd (nox (fo fr)) fun o => fun S => match insS S o with
  | some (_, c', fl) => if fl.lookup m = none ∧ c' = c then bnd (seqA fs fr) (fun xs => G (o :: xs)) S else .bad
  | none => .bad
section
variable {X : Cx} {W : WE} {o e : Expr} {es : List Expr} {pos p apos : Pos} {fo fe : Frame → M D} {fs : List (Frame → M D)} {c m : Str} {j k l : Nat} {dds : List D} {F : List D → M D}
end
end DL
namespace DL
open PySem PySem.Spec PyProof.Rows L2
open SeqAt (shaped)
/-! ### several clauses with one name -/
/-- the ends behind a clause: its name is gone -/
def goneD (i : Nat) (D : Ends) : Ends := { nx := fun σ' H' => D.nx (σ'.set i none) H', rt := D.rt, bk := fun σ' H' => D.bk (σ'.set i none) H', ct := fun σ' H' => D.ct (σ'.set i none) H' }
def wAsM (K : PySem.W.Frag) (Wout : WX) (i : Nat) (D : Ends) : List (Value × (Addr → Value → Option Addr → TS)) → WX
  | [] => Wout
  | (c, ts) :: r => fun cls d σ H => ∃ b, PySem.W.exmOne K cls c = some b ∧ (b = true → ∀ a, H a = none → ts a cls d (goneD i D) (σ.set i (some (.ref a))) H) ∧ (b = false → wAsM K Wout i D r cls d σ H)
inductive HdsAs (X : Cx) (n : Str) : List ExceptHandler → List (Value × (Addr → Value → Option Addr → TS)) → Prop
  | nil : HdsAs X n [] []
  | cons {x : Str} {c : Value} {ts : Addr → Value → Option Addr → TS} {b₀ : Stmt} {suite : List Stmt} {np pos' : Pos} {hds : List ExceptHandler} {l : List (Value × (Addr → Value → Option Addr → TS))} (hc : Names X x c)
      (hsu : ∀ (a : Addr) (oe : Obj) (cls : Value) (d : Option Addr) (pn : List (Addr × Obj)), Zc cls d oe → (∃ vs, oe.data = .fields vs) → PSs (X.suite a ((a, oe) :: pn)) (b₀ :: suite) (ts a cls d)) (r : HdsAs X n hds l) :
      HdsAs X n (.ExceptHandler (some (.Name x np)) (some n) (b₀ :: suite) pos' :: hds) ((c, ts) :: l)
section
variable {X : Cx} {body : List Stmt} {h₀ : ExceptHandler} {hds : List ExceptHandler} {l : List (Value × (Addr → Value → Option Addr → TS))} {pos : Pos} {tb : WX → TS} {Wout : WX} {n : Str} {i : Nat}
end
end DL
namespace DL
open PySem PySem.Spec PyProof.Rows L2
open SeqAt (shaped)
/-! ### try: body, except C as n: suite, except D as n: suite, .. -/
def pickC (i : Nat) (x : Exc) (fr : Frame) (S : Store) : List (List (Str × Bool) × (Exc → SM)) → RS
  | [] => .err x fr S
  | (cs, g) :: r => match cs.lookup x.cls with
    | some true => endS i (g x (fr.set i none) S)
    | some false => pickC i x fr S r
    | none => .bad
def tryM (cl : List (List (Str × Bool) × (Exc → SM))) (i : Nat) (f : SM) : SM := fun fr S => match f fr S with
  | .err x fr' S' => pickC i x fr' S' cl
  | r => r
section
variable {X : Cx} {W : WE} {N : List Str} {sc : Scope} {b : Option Scope} {k : Nat} {i : Nat} {n : Str}
inductive HdsD (X : Cx) (sc : Scope) (i : Nat) (n : Str) : List ExceptHandler → List (List (Str × Bool) × (Exc → SM)) → Prop
  | nil : HdsD X sc i n [] []
  | cons {cn : Str} {cs : List (Str × Bool)} {g : Exc → SM} {b₀ : Stmt} {suite : List Stmt} {np pos' : Pos} {hds : List ExceptHandler} {l : List (List (Str × Bool) × (Exc → SM))} (nc : NG sc cn) (te : TryE X.K X.mg cn cs) (hsu : DX X i g (b₀ :: suite)) (r : HdsD X sc i n hds l) :
      HdsD X sc i n (.ExceptHandler (some (.Name cn np)) (some n) (b₀ :: suite) pos' :: hds) ((cs, g) :: l)
end
end DL
namespace DL
open PySem PySem.Spec PyProof.Rows L2
open SeqAt (shaped)
/-! ### raise C(), an error without fields -/
/-- an error's class without a body of its own, below ValueError -/
structure ErrZ (K : PySem.W.Frag) (mg : Str → Option Value) (c : Str) : Prop where
  ex : ∃ (C : Addr) (bmB : List Value) (B newId initId : String), mg c = some (.ref C) ∧ ExcBaseFacts B newId initId bmB ∧ PySem.W.excIn K C bmB newId = true ∧ PySem.W.keepIn K (.ref C) = true ∧ ∀ X : Cx, X.K = K → Raises X (.ref C)
def raiZ (c : Str) : SM := fun fr S => .err ⟨c, []⟩ fr S
section
variable {X : Cx} {W : WE} {p pos pos2 : Pos} {c x : Str} {N : List Str} {sc : Scope} {b : Option Scope} {k : Nat}
end
end DL
namespace DL
open PySem PySem.Spec PyProof.Rows L2
open SeqAt (shaped)
/-! ### defs with defaults that may raise; classes of errors without a body -/
end DL
namespace DL
open PySem PySem.Spec PyProof.Rows L2
open SeqAt (shaped)
/-! ### isinstance(x, C), C a class of the program -/
def TYS : List String := ["NoneType", "bool", "int", "str", "tuple", "list", "dict"]
structure IsoC (K : PySem.W.Frag) (mg : Str → Option Value) (c : Str) : Prop where
  ex : ∃ C, mg c = some (.ref C) ∧ Cls K C ∧ PySem.W.findIn K (.ref C) "__class__" = some (some (.builtin "object.__class__")) ∧ PySem.W.specialIn K (.builtin "object.__class__") "__get__" = some (some (.builtin "getset_descriptor.__get__")) ∧
    PySem.W.takesIn K (.builtin "object.__class__") = some true ∧ PySem.W.mroIn K C (.type "object") = some true ∧ PySem.W.kitOne K (.ref C) (.ref C) = some true ∧ ∀ t ∈ TYS, PySem.W.kitOne K (.type t) (.ref C) = some false
def isoD (c : Str) (d : D) : M D := fun S => match insS S d with
  | some (_, c', _) => if c' = c then .ok (.bl true) S else .bad
  | none => match tyN S d with
    | some t => if t ∈ TYS then .ok (.bl false) S else .bad
    | none => .bad
section
variable {X : Cx} {W : WE} {N : List Str} {sc : Scope} {b : Option Scope} {k : Nat}
end
end DL
namespace DL
open PySem PySem.Spec PyProof.Rows L2
open SeqAt (shaped)
/-! ### l.insert(i, x) -/
def insX (d : D) (xs : List D) : M D := fun S => match d, xs with
  | .ob n, [.int i, y] => (match oLst S[n]? with
    | some l => if l.length < sizeLine ∧ 0 ≤ i ∧ i < 2 ^ 63 then .ok .non (S.set n (some (.lst (l.take i.toNat ++ [y] ++ l.drop i.toNat)))) else .bad
    | none => .bad)
  | _, _ => .bad
section
variable {X : Cx} {W : WE} {e o : Expr} {es : List Expr} {apos cpos : Pos} {fa : Frame → M D} {fs : List (Frame → M D)}
end
end DL
namespace DL
open PySem PySem.Spec PyProof.Rows L2
open SeqAt (shaped)
/-! ### defs that show things (repr): called where nothing is being shown -/
structure FnDG (P : Program) (w : World) (K : PySem.W.Frag) (mg : Str → Option Value) (base : Heap) (k : Nat) (x : Str) (n : Nat) (F : List D → M D) : Prop where
  ex : ∃ (f : Addr) (fd : FuncData) (ps : List Str), mg x = some (.ref f) ∧ PySem.W.keepIn K (.ref f) = true ∧ Binds K fd ps [] ∧ ps.length = n ∧
    ∀ (A : Around) (outer : List Env) (s : Shared) (H : Hp) (us : List Value) (vs : List V) (Q : VK), Room k A → A.guards = some [] → Env0 P w K mg base A outer s H → BindsTo s fd ⟨us, []⟩ (ps.zip us) → Vals vs us → spD K mg n F vs H Q (fun _ _ _ => False) →
      codeAny (model P w) A (.call (.ref f) ⟨us, []⟩) (CR CX0 outer P w H s Q (fun _ _ _ => False)) s
section
variable {X : Cx} {W : WE} {N : List Str} {sc : Scope} {b : Option Scope} {k j n : Nat} {x : Str} {p pos : Pos} {e : Expr} {es : List Expr} {fs : List (Frame → M D)} {F : List D → M D}
end
end DL
/-! ### tables of integers, in plain Lean -/
namespace DL.Tb
open DL.Pl
/-- the sum of f below n -/
def sm (n : Nat) (f : Nat → Int) : Int := ((List.range n).map f).sum
/-! ### tables -/
abbrev Tab2 := List (List Int)
def dot (a v : List Int) : Int := sm v.length fun i => a.getD i 0 * v.getD i 0
def app (T : Tab2) (v : List Int) : List Int := T.map fun r => dot r v
/-- T has n rows of n numbers -/
structure Sq (n : Nat) (T : Tab2) : Prop where
  len : T.length = n
  row : ∀ r ∈ T, r.length = n
def en (T : Tab2) (r c : Nat) : Int := (T.getD r []).getD c 0
def mulM (L F : Tab2) : Tab2 := L.map fun row => (List.range F.length).map fun at_ => sm F.length fun k => row.getD k 0 * en F k at_
def idM (n : Nat) : Tab2 := (List.range n).map fun r => (List.range n).map fun c => if r = c then 1 else 0
section
variable {n : Nat} {T U L F : Tab2} {v w : List Int}
/-- the i-th unit -/
def ev (n i : Nat) : List Int := (List.range n).map fun j => if j = i then 1 else 0
/-- T so many times -/
def pw (n : Nat) (T : Tab2) : Nat → Tab2
  | 0 => idM n
  | k + 1 => mulM T (pw n T k)
/-! ### how great the numbers are -/
def Bd (E : Nat) (T : Tab2) : Prop := ∀ r ∈ T, ∀ x ∈ r, x.natAbs < 2 ^ E
end
/-! ### flat polynomials as rows of factors -/
def places (m : Nat) : List Pw := (List.range m).map (unit m) ++ [List.replicate m 0]
def gt (p : Pol) (k : Pw) : Int := (Pl.get p k).getD 0
def rowP (m : Nat) (p : Pol) : List Int := (places m).map (gt p)
end DL.Tb
namespace DL.Tb
open PySem PySem.Spec PyProof.Rows L2 DL
open DL.Lf (Tabs effN fnd polys Flt K_MODES)
open DL.Lb (F_unknown F_constant)
open DL.Lf (F_many_unknowns F_polys_of F_effects)
/-! ### rounds: the program's tables -/
noncomputable def E_is_flat_1 : DL.Frame → M D := binF leD (calF sumT [varF 1]) (cstF (.int 1))
noncomputable def B_is_flat : SM := retF (calF allD [cmpD [1, 2] (itF (varF 0)) (tgTup [tgName 1, tgName 2]) (yesF) (E_is_flat_1)])
noncomputable abbrev F_is_flat : List D → M D := defF 3 B_is_flat
noncomputable def E_are_straight_1 : DL.Frame → M D := calF (fun xs => F_is_flat (xs ++ [])) [varF 2]
noncomputable def B_are_straight : SM := retF (calF allD [cmp2D [1, 2] [2] (itF (varF 0)) (tgName 1) (yesF) (itF (calF (fun xs => F_polys_of (xs ++ [])) [varF 1])) (tgName 2) (yesF) (E_are_straight_1)])
noncomputable abbrev F_are_straight : List D → M D := defF 3 B_are_straight
noncomputable def B_straight_effects (tc tp tm tt : Tab) : SM := seqS (asgF 2 (calF (fun xs => F_effects tc tp tm tt (xs ++ [])) [varF 0, varF 1])) (seqS (ifS (notF (tstF (calF (fun xs => F_are_straight (xs ++ [])) [varF 2]))) (badS) (nxF)) (retF (varF 2)))
noncomputable abbrev F_straight_effects (tc tp tm tt : Tab) : List D → M D := defF 3 (B_straight_effects tc tp tm tt)
noncomputable def E_joined_3 : DL.Frame → M D := binF mulD (binF ixD (varF 3) (varF 5)) (binF ixD (binF ixD (varF 1) (varF 5)) (varF 4))
noncomputable def E_joined_2 : DL.Frame → M D := calF sumD [cmpD [5] (rngF rng1 [varF 2]) (tgName 5) (yesF) (E_joined_3)]
noncomputable def E_joined_1 : DL.Frame → M D := cmpD [4] (rngF rng1 [varF 2]) (tgName 4) (yesF) (E_joined_2)
noncomputable def B_joined : SM := seqS (asgF 2 (calF lenD [varF 1])) (retF (cmpD [3] (itF (varF 0)) (tgName 3) (yesF) (E_joined_1)))
noncomputable abbrev F_joined : List D → M D := defF 6 B_joined
noncomputable def E_table_of_1 : DL.Frame → M D := binF ixD (binF ixD (calF (fun xs => F_unknown (xs ++ [])) [varF 2, varF 6]) (cstF (.int 0))) (cstF (.int 0))
noncomputable def E_table_of_2 : DL.Frame → M D := calF (fun xs => F_unknown (xs ++ [])) [varF 2, binF addD (binF subD (varF 2) (cstF (.int 4))) (varF 7)]
noncomputable def E_table_of_4 : DL.Frame → M D := getF (calF dictD [varF 5]) (varF 8) (cstF (.int 0))
noncomputable def E_table_of_3 : DL.Frame → M D := cmpD [8] (itF (varF 3)) (tgName 8) (yesF) (E_table_of_4)
noncomputable def B_table_of : SM := seqS (asgF 2 (calF (fun xs => F_many_unknowns (xs ++ [])) [varF 0])) (seqS (asgF 3 (binF addD (cmpD [6] (rngF rng1 [varF 2]) (tgName 6) (yesF) (E_table_of_1)) (lstF [binF mulT (tupF [cstF (.int 0)]) (varF 2)]))) (seqS (asgF 4 (binF addO (calF listD [calF (fun xs => F_polys_of (xs ++ [])) [varF 1]]) (cmpD [7] (rngF rng1 [cstF (.int 4)]) (tgName 7) (yesF) (E_table_of_2)))) (seqS (exprF (metF "list" appD (varF 4) [calF (fun xs => F_constant (xs ++ [])) [varF 2, cstF (.int 1)]])) (retF (cmpD [5] (itF (varF 4)) (tgName 5) (yesF) (E_table_of_3))))))
noncomputable abbrev F_table_of : List D → M D := defF 9 B_table_of
noncomputable def E_power_of_2 : DL.Frame → M D := calF intD [binF eqD (varF 3) (varF 4)]
noncomputable def E_power_of_1 : DL.Frame → M D := cmpD [4] (rngF rng1 [calF lenD [varF 0]]) (tgName 4) (yesF) (E_power_of_2)
noncomputable def L_power_of_1 : SM := seqS (ifS (tbF (binF eqD (binF oddD (varF 1) (cstF (.int 1))) (cstF (.int 1)))) (asgF 2 (calF (fun xs => F_joined (xs ++ [])) [varF 0, varF 2])) (nxF)) (seqS (asgF 0 (calF (fun xs => F_joined (xs ++ [])) [varF 0, varF 0])) (asgF 1 (binF halfD (varF 1) (cstF (.int 1)))))
noncomputable def C_L_power_of_1 : DL.Frame → M Bool := tbF (binF gtD (varF 1) (cstF (.int 0)))
noncomputable def B_power_of : SM := seqS (asgF 2 (cmpD [3] (rngF rng1 [calF lenD [varF 0]]) (tgName 3) (yesF) (E_power_of_1))) (seqS (whileF (C_L_power_of_1) (L_power_of_1)) (retF (varF 2)))
noncomputable abbrev F_power_of : List D → M D := defF 5 B_power_of
local macro_rules | `(tactic| and_intros) => `(tactic| repeat (first | with_reducible refine StpA.go ?_ | with_reducible refine StpB.go ?_ | ((with_reducible refine Ok.var ?_); refine ⟨_, rfl, ?_⟩) | ((with_reducible refine Fr.go ?_); intro fr_ e_; simp only [List.set_cons_zero, List.set_cons_succ, setAll, wipeF] at e_; subst e_) | ((with_reducible refine Ok.tgT ?_ ?_); (exact rfl)) | ((with_reducible refine Ok.tgQt ?_ ?_); (exact rfl)) | ((with_reducible refine Ok.tgQl ?_ ?_); (exact rfl)) | with_reducible refine Ok.tupP ?_ | with_reducible refine Ok.tupleP ?_ | ((with_reducible refine Ok.isi_ptu (p := true) ?_ ?_); decide +kernel) | ((with_reducible refine Ok.isi_ptu (p := false) ?_ ?_); decide +kernel) | with_reducible refine ItQ.ptu ?_ | with_reducible refine SrcQ.ptu ?_ | with_reducible refine Ok.len_p ?_ | with_reducible refine Ok.sli_tail ?_ | ((with_reducible refine OkS.aug ?_); refine ⟨_, rfl, ?_⟩) | ((with_reducible refine Ok.ix_t ?_); refine ⟨_, rfl, ?_⟩) | ((with_reducible refine Ok.ix_l ?_); refine ⟨_, rfl, ?_⟩) | ((with_reducible refine Ok.tgT ?_ ?_); exact rfl) | with_reducible refine Ok.sli_t ?_ | with_reducible refine Ok.sli_l ?_ | ((with_reducible refine Ok.mod_ii ?_ ?_); (first | decide | (simp; done) | (simp; omega))) | ((with_reducible refine Ok.add_tt ?_ ?_); (first | decide | (simp; done) | (simp; omega))) | ((with_reducible refine Ok.add_ll ?_ ?_); (first | decide | (simp; done) | (simp; omega))) | ((with_reducible refine Ok.add_ss ?_ ?_); (first | decide | (simp; done) | (simp; omega))) | ((with_reducible refine Ok.rng1 ?_ ?_); (first | decide | omega | (simp; omega))) | ((with_reducible refine Br.dt ?_ ?_); (first | assumption | exact rfl | omega | decide +kernel)) | ((with_reducible refine Br.df ?_ ?_); (first | assumption | omega | decide +kernel)) | ((with_reducible refine Br.tt ?_ ?_); (first | assumption | decide +kernel)) | ((with_reducible refine Br.ff ?_ ?_); (first | assumption | decide +kernel)) | ((with_reducible refine Ok.isi_tup (p := true) ?_ ?_); decide +kernel) | ((with_reducible refine Ok.isi_tup (p := false) ?_ ?_); decide +kernel) | ((with_reducible refine Ok.isi_int (p := true) ?_ ?_); decide +kernel) | ((with_reducible refine Ok.isi_int (p := false) ?_ ?_); decide +kernel) | ((with_reducible refine Ok.isi_str (p := true) ?_ ?_); decide +kernel) | ((with_reducible refine Ok.isi_str (p := false) ?_ ?_); decide +kernel) | ((with_reducible refine Ok.isi_lst (p := true) ?_ ?_); decide +kernel) | ((with_reducible refine Ok.isi_lst (p := false) ?_ ?_); decide +kernel) | ((with_reducible refine Ok.isi_bl (p := true) ?_ ?_); decide +kernel) | ((with_reducible refine Ok.isi_bl (p := false) ?_ ?_); decide +kernel) | ((with_reducible refine Ok.isi_non (p := true) ?_ ?_); decide +kernel) | ((with_reducible refine Ok.isi_non (p := false) ?_ ?_); decide +kernel) | ((with_reducible refine Ok.isi_ctu (p := true) ?_ ?_); decide +kernel) | ((with_reducible refine Ok.isi_ctu (p := false) ?_ ?_); decide +kernel) | ((with_reducible refine Ok.isi_emp (p := true) ?_ ?_); decide +kernel) | ((with_reducible refine Ok.isi_emp (p := false) ?_ ?_); decide +kernel)))
/-! ### tables as data -/
def rwD (r : List Int) : D := .lst (r.map .int)
def tbD (T : Tab2) : D := .lst (T.map rwD)
section
variable {S : Store} {QD : D → Store → Prop} {QL : List D → Store → Prop} {QS : Fl → DL.Frame → Store → Prop} {n m b : Nat} {w size : Int} {tc tp tm tt : Tab} {deep : Str} {ks : List Str} {mode : Str} {r r2 : List Ky} {p q : Pol} {T U L F : Tab2}
def flB (p : Pol) : Bool := p.all fun x => decide (x.1.sum ≤ 1)
/-! ### effects that are straight -/
/-- an effect of n levels whose polynomials are flat, its factors below 2^E -/
structure Sg (n E : Nat) (g : Gt Pol) : Prop where
  len : g.lv.length = n
  way : g.way ∈ Lb.WAYS
  fl : g.All (Flt (n + 6))
  bd : g.All fun p => Pl.nm p < 2 ^ E
/-- the effects of a row from each mode -/
def effsN (n : Nat) (deep : Str) (ks : List Str) (r : List Ky) : List (Gt Pol) := K_MODES.map fun mode => effN n deep ks mode r
/-- a row whose ways are narrow and whose effects are straight -/
structure St (n : Nat) (deep : Str) (ks : List Str) (E : Nat) (r : List Ky) : Prop where
  ways : Lf.Ways n deep ks E r
  sg : ∀ mode ∈ Lb.WAYS, Sg n E (effN n deep ks mode r)
end
end DL.Tb
namespace DL.Tb
open PySem PySem.Spec PyProof.Rows L2 DL
open DL.Lf (Tabs effN fnd polys Flt K_MODES)
open DL.Lb (F_unknown F_constant)
open DL.Lf (F_many_unknowns F_polys_of F_effects)
local macro_rules | `(tactic| and_intros) => `(tactic| repeat (first | with_reducible refine StpA.go ?_ | with_reducible refine StpB.go ?_ | ((with_reducible refine Ok.var ?_); refine ⟨_, rfl, ?_⟩) | ((with_reducible refine Fr.go ?_); intro fr_ e_; simp only [List.set_cons_zero, List.set_cons_succ, setAll, wipeF] at e_; subst e_) | ((with_reducible refine Ok.tgT ?_ ?_); (exact rfl)) | ((with_reducible refine Ok.tgQt ?_ ?_); (exact rfl)) | ((with_reducible refine Ok.tgQl ?_ ?_); (exact rfl)) | with_reducible refine Ok.tupP ?_ | with_reducible refine Ok.tupleP ?_ | ((with_reducible refine Ok.isi_ptu (p := true) ?_ ?_); decide +kernel) | ((with_reducible refine Ok.isi_ptu (p := false) ?_ ?_); decide +kernel) | with_reducible refine ItQ.ptu ?_ | with_reducible refine SrcQ.ptu ?_ | with_reducible refine Ok.len_p ?_ | with_reducible refine Ok.sli_tail ?_ | ((with_reducible refine OkS.aug ?_); refine ⟨_, rfl, ?_⟩) | ((with_reducible refine Ok.ix_t ?_); refine ⟨_, rfl, ?_⟩) | ((with_reducible refine Ok.ix_l ?_); refine ⟨_, rfl, ?_⟩) | ((with_reducible refine Ok.tgT ?_ ?_); exact rfl) | with_reducible refine Ok.sli_t ?_ | with_reducible refine Ok.sli_l ?_ | ((with_reducible refine Ok.mod_ii ?_ ?_); (first | decide | (simp; done) | (simp; omega))) | ((with_reducible refine Ok.add_tt ?_ ?_); (first | decide | (simp; done) | (simp; omega))) | ((with_reducible refine Ok.add_ll ?_ ?_); (first | decide | (simp; done) | (simp; omega))) | ((with_reducible refine Ok.add_ss ?_ ?_); (first | decide | (simp; done) | (simp; omega))) | ((with_reducible refine Ok.rng1 ?_ ?_); (first | decide | omega | (simp; omega))) | ((with_reducible refine Br.dt ?_ ?_); (first | assumption | exact rfl | omega | decide +kernel)) | ((with_reducible refine Br.df ?_ ?_); (first | assumption | omega | decide +kernel)) | ((with_reducible refine Br.tt ?_ ?_); (first | assumption | decide +kernel)) | ((with_reducible refine Br.ff ?_ ?_); (first | assumption | decide +kernel)) | ((with_reducible refine Ok.isi_tup (p := true) ?_ ?_); decide +kernel) | ((with_reducible refine Ok.isi_tup (p := false) ?_ ?_); decide +kernel) | ((with_reducible refine Ok.isi_int (p := true) ?_ ?_); decide +kernel) | ((with_reducible refine Ok.isi_int (p := false) ?_ ?_); decide +kernel) | ((with_reducible refine Ok.isi_str (p := true) ?_ ?_); decide +kernel) | ((with_reducible refine Ok.isi_str (p := false) ?_ ?_); decide +kernel) | ((with_reducible refine Ok.isi_lst (p := true) ?_ ?_); decide +kernel) | ((with_reducible refine Ok.isi_lst (p := false) ?_ ?_); decide +kernel) | ((with_reducible refine Ok.isi_bl (p := true) ?_ ?_); decide +kernel) | ((with_reducible refine Ok.isi_bl (p := false) ?_ ?_); decide +kernel) | ((with_reducible refine Ok.isi_non (p := true) ?_ ?_); decide +kernel) | ((with_reducible refine Ok.isi_non (p := false) ?_ ?_); decide +kernel) | ((with_reducible refine Ok.isi_ctu (p := true) ?_ ?_); decide +kernel) | ((with_reducible refine Ok.isi_ctu (p := false) ?_ ?_); decide +kernel) | ((with_reducible refine Ok.isi_emp (p := true) ?_ ?_); decide +kernel) | ((with_reducible refine Ok.isi_emp (p := false) ?_ ?_); decide +kernel)))
section
variable {S : Store} {QD : D → Store → Prop} {QL : List D → Store → Prop} {QS : Fl → DL.Frame → Store → Prop} {n m b : Nat} {w size z : Int} {tc tp tm tt : Tab} {deep : Str} {ks : List Str} {mode : Str} {r r2 : List Ky} {p q : Pol} {T U L F : Tab2} {row : List Int}
/-- rows and tables whose products may be worked out -/
structure Jn (n A B : Nat) (F : Tab2) : Prop where
  sq : Sq n F
  bd : Bd B F
  a0 : 0 < A
  b0 : 0 < B
  ab : A + B ≤ 1000000
  n15 : n ≤ 15
/-! ### power_of -/
end
end DL.Tb
namespace DL.Tb
open PySem PySem.Spec PyProof.Rows L2 DL
open DL.Lf (Tabs effN fnd polys Flt K_MODES)
open DL.Lb (F_unknown F_constant)
open DL.Lf (F_many_unknowns F_polys_of F_effects)
/-! ### the table of an effect -/
def lts (n : Nat) : List Pol := (List.range 4).map fun j => Pl.unk (n + 6) (n + 2 + j)
def allP (n : Nat) (g : Gt Pol) : List Pol := polys g ++ lts n ++ [Pl.const (n + 6) 1]
def tb (n : Nat) (g : Gt Pol) : Tab2 := (allP n g).map (rowP (n + 6))
section
variable {n m E : Nat} {g : Gt Pol} {p : Pol} {xs : List Int}
/-- a state and letters as a column -/
def vecS (s : DL.St) (ls : List Int) : List Int := s.lv ++ [s.kp, s.mem] ++ ls ++ [1]
end
local macro_rules | `(tactic| and_intros) => `(tactic| repeat (first | with_reducible refine StpA.go ?_ | with_reducible refine StpB.go ?_ | ((with_reducible refine Ok.var ?_); refine ⟨_, rfl, ?_⟩) | ((with_reducible refine Fr.go ?_); intro fr_ e_; simp only [List.set_cons_zero, List.set_cons_succ, setAll, wipeF] at e_; subst e_) | ((with_reducible refine Ok.tgT ?_ ?_); (exact rfl)) | ((with_reducible refine Ok.tgQt ?_ ?_); (exact rfl)) | ((with_reducible refine Ok.tgQl ?_ ?_); (exact rfl)) | with_reducible refine Ok.tupP ?_ | with_reducible refine Ok.tupleP ?_ | ((with_reducible refine Ok.isi_ptu (p := true) ?_ ?_); decide +kernel) | ((with_reducible refine Ok.isi_ptu (p := false) ?_ ?_); decide +kernel) | with_reducible refine ItQ.ptu ?_ | with_reducible refine SrcQ.ptu ?_ | with_reducible refine Ok.len_p ?_ | with_reducible refine Ok.sli_tail ?_ | ((with_reducible refine OkS.aug ?_); refine ⟨_, rfl, ?_⟩) | ((with_reducible refine Ok.ix_t ?_); refine ⟨_, rfl, ?_⟩) | ((with_reducible refine Ok.ix_l ?_); refine ⟨_, rfl, ?_⟩) | ((with_reducible refine Ok.tgT ?_ ?_); exact rfl) | with_reducible refine Ok.sli_t ?_ | with_reducible refine Ok.sli_l ?_ | ((with_reducible refine Ok.mod_ii ?_ ?_); (first | decide | (simp; done) | (simp; omega))) | ((with_reducible refine Ok.add_tt ?_ ?_); (first | decide | (simp; done) | (simp; omega))) | ((with_reducible refine Ok.add_ll ?_ ?_); (first | decide | (simp; done) | (simp; omega))) | ((with_reducible refine Ok.add_ss ?_ ?_); (first | decide | (simp; done) | (simp; omega))) | ((with_reducible refine Ok.rng1 ?_ ?_); (first | decide | omega | (simp; omega))) | ((with_reducible refine Br.dt ?_ ?_); (first | assumption | exact rfl | omega | decide +kernel)) | ((with_reducible refine Br.df ?_ ?_); (first | assumption | omega | decide +kernel)) | ((with_reducible refine Br.tt ?_ ?_); (first | assumption | decide +kernel)) | ((with_reducible refine Br.ff ?_ ?_); (first | assumption | decide +kernel)) | ((with_reducible refine Ok.isi_tup (p := true) ?_ ?_); decide +kernel) | ((with_reducible refine Ok.isi_tup (p := false) ?_ ?_); decide +kernel) | ((with_reducible refine Ok.isi_int (p := true) ?_ ?_); decide +kernel) | ((with_reducible refine Ok.isi_int (p := false) ?_ ?_); decide +kernel) | ((with_reducible refine Ok.isi_str (p := true) ?_ ?_); decide +kernel) | ((with_reducible refine Ok.isi_str (p := false) ?_ ?_); decide +kernel) | ((with_reducible refine Ok.isi_lst (p := true) ?_ ?_); decide +kernel) | ((with_reducible refine Ok.isi_lst (p := false) ?_ ?_); decide +kernel) | ((with_reducible refine Ok.isi_bl (p := true) ?_ ?_); decide +kernel) | ((with_reducible refine Ok.isi_bl (p := false) ?_ ?_); decide +kernel) | ((with_reducible refine Ok.isi_non (p := true) ?_ ?_); decide +kernel) | ((with_reducible refine Ok.isi_non (p := false) ?_ ?_); decide +kernel) | ((with_reducible refine Ok.isi_ctu (p := true) ?_ ?_); decide +kernel) | ((with_reducible refine Ok.isi_ctu (p := false) ?_ ?_); decide +kernel) | ((with_reducible refine Ok.isi_emp (p := true) ?_ ?_); decide +kernel) | ((with_reducible refine Ok.isi_emp (p := false) ?_ ?_); decide +kernel)))
section
variable {S : Store} {QD : D → Store → Prop} {n m b E : Nat} {w size z : Int} {deep : Str} {ks : List Str} {p : Pol} {g : Gt Pol}
end
end DL.Tb
namespace DL.Tb
open PySem PySem.Spec PyProof.Rows L2 DL
open DL.Lf (Tabs effN fnd polys Flt K_MODES stOf)
open DL.Lf (F_effects)
/-! ### rows that take back: told by 0 and the units -/
/-- all 0, and 1 at each place -/
def pts (m : Nat) : List (List Int) := List.replicate m 0 :: (List.range m).map (ev m)
section
variable {n m E : Nat} {T M : Tab2} {deep : Str} {ks : List Str} {r r2 : List Ky} {mode : Str} {xs : List Int}
/-- the numbers of a state: levels, last, memory -/
def nums (s : DL.St) : List Int := s.lv ++ [s.kp, s.mem]
/-- both rows behind one another, as a table -/
def bothT (n : Nat) (deep : Str) (ks : List Str) (r r2 : List Ky) (mode : Str) : Tab2 := mulM (tb n (effN n deep ks (effN n deep ks mode r).way r2)) (tb n (effN n deep ks mode r))
def backN (n : Nat) (deep : Str) (ks : List Str) (r r2 : List Ky) : Bool := K_MODES.all fun mode => decide (bothT n deep ks r r2 mode = idM (n + 7))
end
noncomputable def L_leads_back_1 : SM := seqS (asgF 4 (calF (fun xs => F_joined (xs ++ [])) [calF (fun xs => F_table_of (xs ++ [])) [varF 0, binF ixD (varF 2) (cixF K_MODES [binF ixD (varF 3) (cstF (.int 3))])], calF (fun xs => F_table_of (xs ++ [])) [varF 0, varF 3]])) (ifS (tbF (binF neD (varF 4) (calF (fun xs => F_power_of (xs ++ [])) [varF 4, cstF (.int 0)]))) (retF (cstF (.bl false))) (nxF))
noncomputable def B_leads_back : SM := seqS (forF (itF (varF 1)) (tgName 3) (L_leads_back_1)) (retF (cstF (.bl true)))
noncomputable abbrev F_leads_back : List D → M D := defF 5 B_leads_back
noncomputable def B_takes_back (tc tp tm tt : Tab) : SM := seqS (exprF (calF (fun xs => F_effects tc tp tm tt (xs ++ [])) [varF 0, varF 1])) (seqS (asgF 3 (calF (fun xs => F_straight_effects tc tp tm tt (xs ++ [])) [varF 0, varF 2])) (retF (calF (fun xs => F_leads_back (xs ++ [])) [varF 0, calF (fun xs => F_straight_effects tc tp tm tt (xs ++ [])) [varF 0, varF 1], varF 3])))
noncomputable abbrev F_takes_back (tc tp tm tt : Tab) : List D → M D := defF 4 (B_takes_back tc tp tm tt)
local macro_rules | `(tactic| and_intros) => `(tactic| repeat (first | with_reducible refine StpA.go ?_ | with_reducible refine StpB.go ?_ | ((with_reducible refine Ok.var ?_); refine ⟨_, rfl, ?_⟩) | ((with_reducible refine Fr.go ?_); intro fr_ e_; simp only [List.set_cons_zero, List.set_cons_succ, setAll, wipeF] at e_; subst e_) | ((with_reducible refine Ok.tgT ?_ ?_); (exact rfl)) | ((with_reducible refine Ok.tgQt ?_ ?_); (exact rfl)) | ((with_reducible refine Ok.tgQl ?_ ?_); (exact rfl)) | with_reducible refine Ok.tupP ?_ | with_reducible refine Ok.tupleP ?_ | ((with_reducible refine Ok.isi_ptu (p := true) ?_ ?_); decide +kernel) | ((with_reducible refine Ok.isi_ptu (p := false) ?_ ?_); decide +kernel) | with_reducible refine ItQ.ptu ?_ | with_reducible refine SrcQ.ptu ?_ | with_reducible refine Ok.len_p ?_ | with_reducible refine Ok.sli_tail ?_ | ((with_reducible refine OkS.aug ?_); refine ⟨_, rfl, ?_⟩) | ((with_reducible refine Ok.ix_t ?_); refine ⟨_, rfl, ?_⟩) | ((with_reducible refine Ok.ix_l ?_); refine ⟨_, rfl, ?_⟩) | ((with_reducible refine Ok.tgT ?_ ?_); exact rfl) | with_reducible refine Ok.sli_t ?_ | with_reducible refine Ok.sli_l ?_ | ((with_reducible refine Ok.mod_ii ?_ ?_); (first | decide | (simp; done) | (simp; omega))) | ((with_reducible refine Ok.add_tt ?_ ?_); (first | decide | (simp; done) | (simp; omega))) | ((with_reducible refine Ok.add_ll ?_ ?_); (first | decide | (simp; done) | (simp; omega))) | ((with_reducible refine Ok.add_ss ?_ ?_); (first | decide | (simp; done) | (simp; omega))) | ((with_reducible refine Ok.rng1 ?_ ?_); (first | decide | omega | (simp; omega))) | ((with_reducible refine Br.dt ?_ ?_); (first | assumption | exact rfl | omega | decide +kernel)) | ((with_reducible refine Br.df ?_ ?_); (first | assumption | omega | decide +kernel)) | ((with_reducible refine Br.tt ?_ ?_); (first | assumption | decide +kernel)) | ((with_reducible refine Br.ff ?_ ?_); (first | assumption | decide +kernel)) | ((with_reducible refine Ok.isi_tup (p := true) ?_ ?_); decide +kernel) | ((with_reducible refine Ok.isi_tup (p := false) ?_ ?_); decide +kernel) | ((with_reducible refine Ok.isi_int (p := true) ?_ ?_); decide +kernel) | ((with_reducible refine Ok.isi_int (p := false) ?_ ?_); decide +kernel) | ((with_reducible refine Ok.isi_str (p := true) ?_ ?_); decide +kernel) | ((with_reducible refine Ok.isi_str (p := false) ?_ ?_); decide +kernel) | ((with_reducible refine Ok.isi_lst (p := true) ?_ ?_); decide +kernel) | ((with_reducible refine Ok.isi_lst (p := false) ?_ ?_); decide +kernel) | ((with_reducible refine Ok.isi_bl (p := true) ?_ ?_); decide +kernel) | ((with_reducible refine Ok.isi_bl (p := false) ?_ ?_); decide +kernel) | ((with_reducible refine Ok.isi_non (p := true) ?_ ?_); decide +kernel) | ((with_reducible refine Ok.isi_non (p := false) ?_ ?_); decide +kernel) | ((with_reducible refine Ok.isi_ctu (p := true) ?_ ?_); decide +kernel) | ((with_reducible refine Ok.isi_ctu (p := false) ?_ ?_); decide +kernel) | ((with_reducible refine Ok.isi_emp (p := true) ?_ ?_); decide +kernel) | ((with_reducible refine Ok.isi_emp (p := false) ?_ ?_); decide +kernel)))
section
variable {S : Store} {QD : D → Store → Prop} {QS : Fl → DL.Frame → Store → Prop} {n m b E : Nat} {w size z : Int} {tc tp tm tt : Tab} {deep : Str} {ks : List Str} {g : Gt Pol} {r r2 : List Ky}
end
end DL.Tb
namespace DL.Tb
open PySem PySem.Spec PyProof.Rows L2 DL
open DL.Lf (Tabs effN fnd polys Flt K_MODES stOf Gd)
/-! ### rows without products are straight -/
section
variable {n E : Nat} {deep : Str} {ks : List Str} {r : List Ky}
end
/-! ### the law's rows without products -/
noncomputable def E_x_flat_row_1 : DL.Frame → M D := iteF (tbF (binF eqD (varF 4) (cstF (.str "*")))) (calF (fun xs => Lb.F_x_one (xs ++ [])) [varF 0, lstF [cstF (.str "neg"), cstF (.str "-")]]) (varF 4)
noncomputable def E_x_flat_row_2 : DL.Frame → M D := varF 5
noncomputable def T_x_flat_row_2 : DL.Frame → M Bool := tbF (binF inD (binF ixD (varF 2) (varF 5)) (cstF (.str "0123456789")))
noncomputable def E_x_flat_row_3 : DL.Frame → M D := iteF (tbF (binF inD (varF 5) (sliF sliD (varF 3) (some (cstF (.int 2))) none))) (cstF (.str "neg")) (binF ixD (varF 2) (varF 5))
noncomputable def B_x_flat_row : SM := seqS (asgF 2 (cmpD [4] (itF (calF (fun xs => Lb.F_x_row (xs ++ [])) [varF 0, varF 1])) (tgName 4) (yesF) (E_x_flat_row_1))) (seqS (asgF 3 (cmpD [5] (rngF rng1 [calF lenD [varF 2]]) (tgName 5) (T_x_flat_row_2) (E_x_flat_row_2))) (retF (calF tupleD [cmpD [5] (rngF rng1 [calF lenD [varF 2]]) (tgName 5) (yesF) (E_x_flat_row_3)])))
noncomputable abbrev F_x_flat_row : List D → M D := defF 6 B_x_flat_row
noncomputable def E_x_points_1 : DL.Frame → M D := binF addD (binF addD (binF mulT (tupF [cstF (.int 0)]) (varF 2)) (tupF [cstF (.int 1)])) (binF mulT (tupF [cstF (.int 0)]) (binF subD (binF subD (varF 1) (varF 2)) (cstF (.int 1))))
noncomputable def B_x_points : SM := seqS (asgF 1 (binF addD (varF 0) (cstF (.int 6)))) (retF (binF addD (lstF [binF mulT (tupF [cstF (.int 0)]) (varF 1)]) (cmpD [2] (rngF rng1 [varF 1]) (tgName 2) (yesF) (E_x_points_1))))
noncomputable abbrev F_x_points : List D → M D := defF 3 B_x_points
noncomputable def B_x_start : SM := retF (tupF [tupF [sliF sliD (varF 2) none (some (varF 0)), binF ixD (varF 2) (varF 0), binF ixD (varF 2) (binF addD (varF 0) (cstF (.int 1))), varF 1], sliF sliD (varF 2) (some (binF addD (varF 0) (cstF (.int 2)))) none])
noncomputable abbrev F_x_start : List D → M D := defF 3 B_x_start
noncomputable def B_x_end : SM := seqS (asgF 4 (calF (fun xs => F_x_start (xs ++ [])) [binF ixD (varF 0) (cstF (.int 0)), varF 1, varF 3])) (seqS (asgF 5 (calF (fun xs => Lb.F_x_run (xs ++ [])) [varF 0, binF ixD (varF 4) (cstF (.int 0)), varF 2, binF ixD (varF 4) (cstF (.int 1))])) (retF (binF addD (calF listD [binF ixD (varF 5) (cstF (.int 0))]) (calF listD [sliF sliD (varF 5) (some (cstF (.int 1))) (some (cstF (.int 3)))]))))
noncomputable abbrev F_x_end : List D → M D := defF 6 B_x_end
local macro_rules | `(tactic| and_intros) => `(tactic| repeat (first | with_reducible refine StpA.go ?_ | with_reducible refine StpB.go ?_ | ((with_reducible refine Ok.var ?_); refine ⟨_, rfl, ?_⟩) | ((with_reducible refine Fr.go ?_); intro fr_ e_; simp only [List.set_cons_zero, List.set_cons_succ, setAll, wipeF] at e_; subst e_) | ((with_reducible refine Ok.tgT ?_ ?_); (exact rfl)) | ((with_reducible refine Ok.tgQt ?_ ?_); (exact rfl)) | ((with_reducible refine Ok.tgQl ?_ ?_); (exact rfl)) | with_reducible refine Ok.tupP ?_ | with_reducible refine Ok.tupleP ?_ | ((with_reducible refine Ok.isi_ptu (p := true) ?_ ?_); decide +kernel) | ((with_reducible refine Ok.isi_ptu (p := false) ?_ ?_); decide +kernel) | with_reducible refine ItQ.ptu ?_ | with_reducible refine SrcQ.ptu ?_ | with_reducible refine Ok.len_p ?_ | with_reducible refine Ok.sli_tail ?_ | ((with_reducible refine OkS.aug ?_); refine ⟨_, rfl, ?_⟩) | ((with_reducible refine Ok.ix_t ?_); refine ⟨_, rfl, ?_⟩) | ((with_reducible refine Ok.ix_l ?_); refine ⟨_, rfl, ?_⟩) | ((with_reducible refine Ok.tgT ?_ ?_); exact rfl) | with_reducible refine Ok.sli_t ?_ | with_reducible refine Ok.sli_l ?_ | ((with_reducible refine Ok.mod_ii ?_ ?_); (first | decide | (simp; done) | (simp; omega))) | ((with_reducible refine Ok.add_tt ?_ ?_); (first | decide | (simp; done) | (simp; omega))) | ((with_reducible refine Ok.add_ll ?_ ?_); (first | decide | (simp; done) | (simp; omega))) | ((with_reducible refine Ok.add_ss ?_ ?_); (first | decide | (simp; done) | (simp; omega))) | ((with_reducible refine Ok.rng1 ?_ ?_); (first | decide | omega | (simp; omega))) | ((with_reducible refine Br.dt ?_ ?_); (first | assumption | exact rfl | omega | decide +kernel)) | ((with_reducible refine Br.df ?_ ?_); (first | assumption | omega | decide +kernel)) | ((with_reducible refine Br.tt ?_ ?_); (first | assumption | decide +kernel)) | ((with_reducible refine Br.ff ?_ ?_); (first | assumption | decide +kernel)) | ((with_reducible refine Ok.isi_tup (p := true) ?_ ?_); decide +kernel) | ((with_reducible refine Ok.isi_tup (p := false) ?_ ?_); decide +kernel) | ((with_reducible refine Ok.isi_int (p := true) ?_ ?_); decide +kernel) | ((with_reducible refine Ok.isi_int (p := false) ?_ ?_); decide +kernel) | ((with_reducible refine Ok.isi_str (p := true) ?_ ?_); decide +kernel) | ((with_reducible refine Ok.isi_str (p := false) ?_ ?_); decide +kernel) | ((with_reducible refine Ok.isi_lst (p := true) ?_ ?_); decide +kernel) | ((with_reducible refine Ok.isi_lst (p := false) ?_ ?_); decide +kernel) | ((with_reducible refine Ok.isi_bl (p := true) ?_ ?_); decide +kernel) | ((with_reducible refine Ok.isi_bl (p := false) ?_ ?_); decide +kernel) | ((with_reducible refine Ok.isi_non (p := true) ?_ ?_); decide +kernel) | ((with_reducible refine Ok.isi_non (p := false) ?_ ?_); decide +kernel) | ((with_reducible refine Ok.isi_ctu (p := true) ?_ ?_); decide +kernel) | ((with_reducible refine Ok.isi_ctu (p := false) ?_ ?_); decide +kernel) | ((with_reducible refine Ok.isi_emp (p := true) ?_ ?_); decide +kernel) | ((with_reducible refine Ok.isi_emp (p := false) ?_ ?_); decide +kernel)))
section
variable {S : Store} {QD : D → Store → Prop} {n m q : Nat} {w size z : Int} {deep : Str} {ks : List Str} {r : List Ky}
def kyD (r : List Ky) : List D := (r.map Ky.s).map .str
end
end DL.Tb
namespace DL.Tb
open PySem PySem.Spec PyProof.Rows L2 DL
open DL.Lf (Tabs effN fnd polys Flt K_MODES stOf Gd)
local macro_rules | `(tactic| and_intros) => `(tactic| repeat (first | with_reducible refine StpA.go ?_ | with_reducible refine StpB.go ?_ | ((with_reducible refine Ok.var ?_); refine ⟨_, rfl, ?_⟩) | ((with_reducible refine Fr.go ?_); intro fr_ e_; simp only [List.set_cons_zero, List.set_cons_succ, setAll, wipeF] at e_; subst e_) | ((with_reducible refine Ok.tgT ?_ ?_); (exact rfl)) | ((with_reducible refine Ok.tgQt ?_ ?_); (exact rfl)) | ((with_reducible refine Ok.tgQl ?_ ?_); (exact rfl)) | with_reducible refine Ok.tupP ?_ | with_reducible refine Ok.tupleP ?_ | ((with_reducible refine Ok.isi_ptu (p := true) ?_ ?_); decide +kernel) | ((with_reducible refine Ok.isi_ptu (p := false) ?_ ?_); decide +kernel) | with_reducible refine ItQ.ptu ?_ | with_reducible refine SrcQ.ptu ?_ | with_reducible refine Ok.len_p ?_ | with_reducible refine Ok.sli_tail ?_ | ((with_reducible refine OkS.aug ?_); refine ⟨_, rfl, ?_⟩) | ((with_reducible refine Ok.ix_t ?_); refine ⟨_, rfl, ?_⟩) | ((with_reducible refine Ok.ix_l ?_); refine ⟨_, rfl, ?_⟩) | ((with_reducible refine Ok.tgT ?_ ?_); exact rfl) | with_reducible refine Ok.sli_t ?_ | with_reducible refine Ok.sli_l ?_ | ((with_reducible refine Ok.mod_ii ?_ ?_); (first | decide | (simp; done) | (simp; omega))) | ((with_reducible refine Ok.add_tt ?_ ?_); (first | decide | (simp; done) | (simp; omega))) | ((with_reducible refine Ok.add_ll ?_ ?_); (first | decide | (simp; done) | (simp; omega))) | ((with_reducible refine Ok.add_ss ?_ ?_); (first | decide | (simp; done) | (simp; omega))) | ((with_reducible refine Ok.rng1 ?_ ?_); (first | decide | omega | (simp; omega))) | ((with_reducible refine Br.dt ?_ ?_); (first | assumption | exact rfl | omega | decide +kernel)) | ((with_reducible refine Br.df ?_ ?_); (first | assumption | omega | decide +kernel)) | ((with_reducible refine Br.tt ?_ ?_); (first | assumption | decide +kernel)) | ((with_reducible refine Br.ff ?_ ?_); (first | assumption | decide +kernel)) | ((with_reducible refine Ok.isi_tup (p := true) ?_ ?_); decide +kernel) | ((with_reducible refine Ok.isi_tup (p := false) ?_ ?_); decide +kernel) | ((with_reducible refine Ok.isi_int (p := true) ?_ ?_); decide +kernel) | ((with_reducible refine Ok.isi_int (p := false) ?_ ?_); decide +kernel) | ((with_reducible refine Ok.isi_str (p := true) ?_ ?_); decide +kernel) | ((with_reducible refine Ok.isi_str (p := false) ?_ ?_); decide +kernel) | ((with_reducible refine Ok.isi_lst (p := true) ?_ ?_); decide +kernel) | ((with_reducible refine Ok.isi_lst (p := false) ?_ ?_); decide +kernel) | ((with_reducible refine Ok.isi_bl (p := true) ?_ ?_); decide +kernel) | ((with_reducible refine Ok.isi_bl (p := false) ?_ ?_); decide +kernel) | ((with_reducible refine Ok.isi_non (p := true) ?_ ?_); decide +kernel) | ((with_reducible refine Ok.isi_non (p := false) ?_ ?_); decide +kernel) | ((with_reducible refine Ok.isi_ctu (p := true) ?_ ?_); decide +kernel) | ((with_reducible refine Ok.isi_ctu (p := false) ?_ ?_); decide +kernel) | ((with_reducible refine Ok.isi_emp (p := true) ?_ ?_); decide +kernel) | ((with_reducible refine Ok.isi_emp (p := false) ?_ ?_); decide +kernel)))
section
variable {S : Store} {QD : D → Store → Prop} {n m q : Nat} {w size z : Int} {deep : Str} {ks : List Str} {r : List Ky} {mode : Str} {xs : List Int}
/-! ### the law's points and ends -/
def ptD (xs : List Int) : D := .tup (xs.map .int)
end
end DL.Tb
namespace DL.Tb
open PySem PySem.Spec PyProof.Rows L2 DL
open DL.Lb (MENU DEEPS K_KEEPING)
/-! ### boxes whose keeps may be the class's own -/
def CuQ (QD : D → Store → Prop) (d : D) (S : Store) : Prop := QD (cuD d) S
noncomputable def E_are_keeps_1 : DL.Frame → M D := andV (unF (isiD "str") (varF 3)) (binF inD (varF 3) (cstF (.ctu (K_KEEPING.map .str))))
noncomputable def E_are_keeps_2 : DL.Frame → M D := binF ltD (varF 1) (varF 2)
noncomputable def B_are_keeps : SM := seqS (ifS (orF (notF (tstF (unF (isiD "tuple") (cuF (varF 0))))) (notF (tstF (calF allD [cmpD [3] (itF (cuF (varF 0))) (tgName 3) (yesF) (E_are_keeps_1)])))) (retF (cstF (.bl false))) (nxF)) (retF (calF allD [cmpD [1, 2] (rngF zipC [cuF (varF 0), cuF (sliF sliC (cuF (varF 0)) (some (cstF (.int 1))) none)]) (tgTup [tgName 1, tgName 2]) (yesF) (E_are_keeps_2)]))
noncomputable abbrev F_are_keeps : List D → M D := defF 4 B_are_keeps
noncomputable def B_Box_init : SM := seqS (ifS (notF (tstF (calF (fun xs => Lb.F_is_integer (xs ++ [])) [varF 1, cstF (.int 2), cstF (.int 6)]))) (badS) (nxF)) (seqS (ifS (orF (notF (tstF (unF (isiD "str") (varF 2)))) (tbF (binF notInD (varF 2) (tupF [cstF (.str "copy"), cstF (.str "nought")])))) (badS) (nxF)) (seqS (ifS (notF (tstF (calF (fun xs => F_are_keeps (xs ++ [])) [varF 3]))) (badS) (nxF)) (asgG (tgAtt ["Box"] "_rules" (varF 0)) (tupF [varF 1, varF 2, varF 3]))))
noncomputable abbrev F_Box_init : List D → M D := defF 4 B_Box_init
noncomputable def B_x_box : SM := retF (makF "Box" (fun xs => F_Box_init (xs ++ [])) [binF ixD (varF 0) (cstF (.int 0)), binF ixD (varF 0) (cstF (.int 1)), binF ixD (varF 0) (cstF (.int 2))])
noncomputable abbrev F_x_box : List D → M D := defF 1 B_x_box
local macro_rules | `(tactic| and_intros) => `(tactic| repeat (first | with_reducible refine StpA.go ?_ | with_reducible refine StpB.go ?_ | ((with_reducible refine Ok.var ?_); refine ⟨_, rfl, ?_⟩) | ((with_reducible refine Fr.go ?_); intro fr_ e_; simp only [List.set_cons_zero, List.set_cons_succ, setAll, wipeF] at e_; subst e_) | with_reducible refine Ok.cuF ?_ | with_reducible refine CuQ.at_ ?_ | with_reducible refine sliC_nil ?_ | with_reducible refine sliC_cons ?_ | with_reducible refine zip_cc ?_ | ((with_reducible refine Ok.isi_ctu (p := true) ?_ ?_); decide +kernel) | ((with_reducible refine Lb.Ok.in_sk ?_ ?_ ?_); (decide +kernel); (decide +kernel)) | with_reducible refine Ok.lt_ss ?_ | ((with_reducible refine Ok.tgT ?_ ?_); (exact rfl)) | ((with_reducible refine Ok.in_td ?_ ?_ ?_ ?_); (exact rfl); (decide +kernel); (decide +kernel)) | with_reducible refine Ok.sli_tail ?_ | ((with_reducible refine OkS.aug ?_); refine ⟨_, rfl, ?_⟩) | ((with_reducible refine Ok.ix_t ?_); refine ⟨_, rfl, ?_⟩) | ((with_reducible refine Ok.ix_l ?_); refine ⟨_, rfl, ?_⟩) | ((with_reducible refine Ok.tgT ?_ ?_); exact rfl) | with_reducible refine Ok.sli_t ?_ | with_reducible refine Ok.sli_l ?_ | ((with_reducible refine Ok.mod_ii ?_ ?_); (first | decide | (simp; done) | (simp; omega))) | ((with_reducible refine Ok.add_tt ?_ ?_); (first | decide | (simp; done) | (simp; omega))) | ((with_reducible refine Ok.add_ll ?_ ?_); (first | decide | (simp; done) | (simp; omega))) | ((with_reducible refine Ok.add_ss ?_ ?_); (first | decide | (simp; done) | (simp; omega))) | ((with_reducible refine Ok.rng1 ?_ ?_); (first | decide | omega | (simp; omega))) | ((with_reducible refine Br.dt ?_ ?_); (first | assumption | exact rfl | omega | decide +kernel)) | ((with_reducible refine Br.df ?_ ?_); (first | assumption | omega | decide +kernel)) | ((with_reducible refine Br.tt ?_ ?_); (first | assumption | decide +kernel)) | ((with_reducible refine Br.ff ?_ ?_); (first | assumption | decide +kernel)) | ((with_reducible refine Ok.isi_tup (p := true) ?_ ?_); decide +kernel) | ((with_reducible refine Ok.isi_tup (p := false) ?_ ?_); decide +kernel) | ((with_reducible refine Ok.isi_int (p := true) ?_ ?_); decide +kernel) | ((with_reducible refine Ok.isi_int (p := false) ?_ ?_); decide +kernel) | ((with_reducible refine Ok.isi_str (p := true) ?_ ?_); decide +kernel) | ((with_reducible refine Ok.isi_str (p := false) ?_ ?_); decide +kernel) | ((with_reducible refine Ok.isi_lst (p := true) ?_ ?_); decide +kernel) | ((with_reducible refine Ok.isi_lst (p := false) ?_ ?_); decide +kernel) | ((with_reducible refine Ok.isi_bl (p := true) ?_ ?_); decide +kernel) | ((with_reducible refine Ok.isi_bl (p := false) ?_ ?_); decide +kernel) | ((with_reducible refine Ok.isi_non (p := true) ?_ ?_); decide +kernel) | ((with_reducible refine Ok.isi_non (p := false) ?_ ?_); decide +kernel) | ((with_reducible refine Ok.isi_ctu (p := true) ?_ ?_); decide +kernel) | ((with_reducible refine Ok.isi_ctu (p := false) ?_ ?_); decide +kernel) | ((with_reducible refine Ok.isi_emp (p := true) ?_ ?_); decide +kernel) | ((with_reducible refine Ok.isi_emp (p := false) ?_ ?_); decide +kernel)))
section
variable {S : Store} {QD : D → Store → Prop}
end
end DL.Tb
namespace DL
open PySem PySem.Spec PyProof.Rows L2
end DL
/-! ### the second deck's laws: rules, modes, boxes -/
namespace DL.Lc
open PySem PySem.Spec PyProof.Rows L2 DL
noncomputable abbrev F_x_draw : List D → M D := defF 5 draw2B
noncomputable abbrev F_x_pick : List D → M D := defF 2 (oneB (defF 5 draw2B))
noncomputable def B_x_rules : SM := seqS (asgF 1 (calF (fun xs => F_x_pick (xs ++ [])) [varF 0, lstF [tupF [cstF (.str "*"), cstF (.str "+"), cstF (.str "-")], tupF [], tupF [cstF (.str "*"), cstF (.str "+"), cstF (.str "-"), cstF (.str "neg")], tupF [cstF (.str "+")], tupF [cstF (.str "-"), cstF (.str "neg")], tupF [cstF (.str "*"), cstF (.str "+"), cstF (.str "-")]]])) (retF (tupF [calF (fun xs => F_x_pick (xs ++ [])) [varF 0, lstF [cstF (.int 2), cstF (.int 2), cstF (.int 3), cstF (.int 3), cstF (.int 4), cstF (.int 5), cstF (.int 6)]], calF (fun xs => F_x_pick (xs ++ [])) [varF 0, lstF [cstF (.str "copy"), cstF (.str "nought")]], varF 1]))
noncomputable abbrev F_x_rules : List D → M D := defF 2 B_x_rules
noncomputable def B_x_modes : SM := retF (lstF [cstF (.str "free"), cstF (.str "held"), cstF (.str "open")])
noncomputable abbrev F_x_modes : List D → M D := defF 0 B_x_modes
noncomputable def B_x_made : SM := retF (makF "Box" (fun xs => Lb.F_Box_init (xs ++ [])) [binF ixD (varF 0) (cstF (.int 0)), binF ixD (varF 0) (cstF (.int 1)), binF ixD (varF 0) (cstF (.int 2))])
noncomputable abbrev F_x_made : List D → M D := defF 1 B_x_made
def MENU2 : List (List Str) := [["*", "+", "-"], [], ["*", "+", "-", "neg"], ["+"], ["-", "neg"]]
local macro_rules | `(tactic| and_intros) => `(tactic| repeat (first | with_reducible refine StpA.go ?_ | with_reducible refine StpB.go ?_ | ((with_reducible refine Ok.var ?_); refine ⟨_, rfl, ?_⟩) | ((with_reducible refine Fr.go ?_); intro fr_ e_; simp only [List.set_cons_zero, List.set_cons_succ, setAll, wipeF] at e_; subst e_) | with_reducible refine Lb.Ok.sli_nil ?_ | ((with_reducible refine Lb.Ok.in_sk ?_ ?_ ?_); (decide +kernel); (decide +kernel)) | with_reducible refine Ok.lt_ss ?_ | with_reducible refine Lb.Ok.zip_tt ?_ | ((with_reducible refine Ok.tgT ?_ ?_); (exact rfl)) | ((with_reducible refine Ok.in_td ?_ ?_ ?_ ?_); (exact rfl); (decide +kernel); (decide +kernel)) | with_reducible refine Ok.sli_tail ?_ | ((with_reducible refine OkS.aug ?_); refine ⟨_, rfl, ?_⟩) | ((with_reducible refine Ok.ix_t ?_); refine ⟨_, rfl, ?_⟩) | ((with_reducible refine Ok.ix_l ?_); refine ⟨_, rfl, ?_⟩) | ((with_reducible refine Ok.tgT ?_ ?_); exact rfl) | with_reducible refine Ok.sli_t ?_ | with_reducible refine Ok.sli_l ?_ | ((with_reducible refine Ok.mod_ii ?_ ?_); (first | decide | (simp; done) | (simp; omega))) | ((with_reducible refine Ok.add_tt ?_ ?_); (first | decide | (simp; done) | (simp; omega))) | ((with_reducible refine Ok.add_ll ?_ ?_); (first | decide | (simp; done) | (simp; omega))) | ((with_reducible refine Ok.add_ss ?_ ?_); (first | decide | (simp; done) | (simp; omega))) | ((with_reducible refine Ok.rng1 ?_ ?_); (first | decide | omega | (simp; omega))) | ((with_reducible refine Br.dt ?_ ?_); (first | assumption | exact rfl | omega | decide +kernel)) | ((with_reducible refine Br.df ?_ ?_); (first | assumption | omega | decide +kernel)) | ((with_reducible refine Br.tt ?_ ?_); (first | assumption | decide +kernel)) | ((with_reducible refine Br.ff ?_ ?_); (first | assumption | decide +kernel)) | ((with_reducible refine Ok.isi_tup (p := true) ?_ ?_); decide +kernel) | ((with_reducible refine Ok.isi_tup (p := false) ?_ ?_); decide +kernel) | ((with_reducible refine Ok.isi_int (p := true) ?_ ?_); decide +kernel) | ((with_reducible refine Ok.isi_int (p := false) ?_ ?_); decide +kernel) | ((with_reducible refine Ok.isi_str (p := true) ?_ ?_); decide +kernel) | ((with_reducible refine Ok.isi_str (p := false) ?_ ?_); decide +kernel) | ((with_reducible refine Ok.isi_lst (p := true) ?_ ?_); decide +kernel) | ((with_reducible refine Ok.isi_lst (p := false) ?_ ?_); decide +kernel) | ((with_reducible refine Ok.isi_bl (p := true) ?_ ?_); decide +kernel) | ((with_reducible refine Ok.isi_bl (p := false) ?_ ?_); decide +kernel) | ((with_reducible refine Ok.isi_non (p := true) ?_ ?_); decide +kernel) | ((with_reducible refine Ok.isi_non (p := false) ?_ ?_); decide +kernel) | ((with_reducible refine Ok.isi_ctu (p := true) ?_ ?_); decide +kernel) | ((with_reducible refine Ok.isi_ctu (p := false) ?_ ?_); decide +kernel) | ((with_reducible refine Ok.isi_emp (p := true) ?_ ?_); decide +kernel) | ((with_reducible refine Ok.isi_emp (p := false) ?_ ?_); decide +kernel)))
section
variable {S : Store} {QD : D → Store → Prop} {n m q : Nat}
end
end DL.Lc
/-! ### the second deck's laws: their own walk of the keys -/
namespace DL.Lc
open PySem PySem.Spec PyProof.Rows L2 DL
noncomputable def B_x_come : SM := retF (binF addD (tupF [varF 1]) (iteF (tbF (binF eqD (varF 2) (cstF (.str "held")))) (sliF sliD (varF 0) (some (cstF (.int 1))) none) (sliF sliD (varF 0) none (some (unF negD (cstF (.int 1)))))))
noncomputable abbrev F_x_come : List D → M D := defF 3 B_x_come
noncomputable def B_x_signed : SM := seqS (parF [3, 4] [binF ixD (varF 1) (cstF (.int 0)), binF ixD (varF 1) (cstF (.int 1))]) (seqS (asgF 5 (iteF (tbF (binF eqD (varF 2) (cstF (.str "+")))) (binF addD (varF 4) (varF 3)) (iteF (tbF (binF eqD (varF 2) (cstF (.str "-")))) (binF subD (varF 4) (varF 3)) (binF mulD (varF 4) (varF 3))))) (retF (binF addD (binF addD (tupF [varF 5]) (sliF sliD (varF 1) (some (cstF (.int 2))) none)) (tupF [iteF (tbF (binF eqD (binF ixD (varF 0) (cstF (.int 1))) (cstF (.str "copy")))) (binF ixD (varF 1) (unF negD (cstF (.int 1)))) (cstF (.int 0))]))))
noncomputable abbrev F_x_signed : List D → M D := defF 6 B_x_signed
noncomputable def B_x_moved : SM := seqS (ifS (tbF (binF eqD (varF 1) (cstF (.str "swap")))) (retF (binF addD (tupF [binF ixD (varF 0) (cstF (.int 1)), binF ixD (varF 0) (cstF (.int 0))]) (sliF sliD (varF 0) (some (cstF (.int 2))) none))) (nxF)) (retF (iteF (tbF (binF eqD (varF 1) (cstF (.str "down")))) (binF addD (sliF sliD (varF 0) (some (cstF (.int 1))) none) (sliF sliD (varF 0) none (some (cstF (.int 1))))) (binF addD (sliF sliD (varF 0) (some (unF negD (cstF (.int 1)))) none) (sliF sliD (varF 0) none (some (unF negD (cstF (.int 1))))))))
noncomputable abbrev F_x_moved : List D → M D := defF 2 B_x_moved
noncomputable def Z_x_press : SM := seqS (ifS (tbF (binF inD (varF 2) (calF listS [cstF (.str "0123456789")]))) (seqS (asgF 4 (iteF (tbF (binF eqD (varF 7) (cstF (.str "open")))) (binF addD (tupF [binF addD (binF mulD (cstF (.int 10)) (binF ixD (varF 4) (cstF (.int 0)))) (calF intD [varF 2])]) (sliF sliD (varF 4) (some (cstF (.int 1))) none)) (calF (fun xs => F_x_come (xs ++ [])) [varF 4, calF intD [varF 2], varF 7]))) (retF (tupF [varF 4, varF 5, varF 6, cstF (.str "open")]))) (nxF)) (seqS (ifS (orF (tbF (binF eqD (varF 2) (cstF (.str "enter")))) (tbF (binF eqD (varF 2) (cstF (.str "clear"))))) (seqS (asgF 4 (iteF (tbF (binF eqD (varF 2) (cstF (.str "enter")))) (binF addD (sliF sliD (varF 4) none (some (cstF (.int 1)))) (sliF sliD (varF 4) none (some (unF negD (cstF (.int 1)))))) (binF addD (tupF [cstF (.int 0)]) (sliF sliD (varF 4) (some (cstF (.int 1))) none)))) (retF (tupF [varF 4, varF 5, varF 6, cstF (.str "held")]))) (nxF)) (seqS (ifS (tbF (binF inD (varF 2) (calF listS [cstF (.str "abcd")]))) (asgF 4 (calF (fun xs => F_x_come (xs ++ [])) [varF 4, binF ixD (varF 3) (metF "list" lixD (calF listS [cstF (.str "abcd")]) [varF 2]), varF 7])) (ifS (tbF (binF inD (varF 2) (lstF [cstF (.str "+"), cstF (.str "-"), cstF (.str "*")]))) (asgF 4 (calF (fun xs => F_x_signed (xs ++ [])) [varF 0, varF 4, varF 2])) (ifS (tbF (binF eqD (varF 2) (cstF (.str "neg")))) (asgF 4 (binF addD (tupF [binF subD (cstF (.int 0)) (binF ixD (varF 4) (cstF (.int 0)))]) (sliF sliD (varF 4) (some (cstF (.int 1))) none))) (ifS (orF (tbF (binF eqD (varF 2) (cstF (.str "last")))) (tbF (binF eqD (varF 2) (cstF (.str "get"))))) (asgF 4 (calF (fun xs => F_x_come (xs ++ [])) [varF 4, iteF (tbF (binF eqD (varF 2) (cstF (.str "last")))) (varF 5) (varF 6), varF 7])) (ifS (tbF (binF eqD (varF 2) (cstF (.str "put")))) (asgF 6 (binF ixD (varF 4) (cstF (.int 0)))) (asgF 4 (calF (fun xs => F_x_moved (xs ++ [])) [varF 4, varF 2]))))))) (retF (tupF [varF 4, varF 5, varF 6, cstF (.str "free")]))))
noncomputable def B_x_press : SM := seqS (asgG (tgTup [tgName 4, tgName 5, tgName 6, tgName 7]) (varF 1)) (seqS (asgF 5 (iteF (tbF (binF inD (varF 2) (binF ixD (varF 0) (cstF (.int 2))))) (binF ixD (varF 4) (cstF (.int 0))) (varF 5))) Z_x_press)
noncomputable abbrev F_x_press : List D → M D := defF 8 B_x_press
local macro_rules | `(tactic| and_intros) => `(tactic| repeat (first | with_reducible refine StpA.go ?_ | with_reducible refine StpB.go ?_ | ((with_reducible refine Ok.var ?_); refine ⟨_, rfl, ?_⟩) | ((with_reducible refine Fr.go ?_); intro fr_ e_; simp only [List.set_cons_zero, List.set_cons_succ, setAll, wipeF] at e_; subst e_) | with_reducible refine Ok.sl_d1 ?_ | with_reducible refine Ok.sl_d2 ?_ | with_reducible refine Ok.sl_t1 ?_ | with_reducible refine Ok.sl_dl ?_ | with_reducible refine Ok.sl_l1 ?_ | ((with_reducible refine Ok.ad_1m ?_ ?_); (simp; omega)) | ((with_reducible refine Ok.ad_2m ?_ ?_); (simp; omega)) | ((with_reducible refine Ok.ad_m1 ?_ ?_); (simp; omega)) | ((with_reducible refine Ok.ad_mm ?_ ?_); (simp; omega)) | ((with_reducible refine Ok.ixm0 ?_ ?_); (omega)) | ((with_reducible refine Ok.ixm1 ?_ ?_); (omega)) | ((with_reducible refine Ok.ixm9 ?_ ?_); (omega)) | ((with_reducible refine Ok.tgT ?_ ?_); (exact rfl)) | with_reducible refine Ok.sli_tail ?_ | ((with_reducible refine OkS.aug ?_); refine ⟨_, rfl, ?_⟩) | ((with_reducible refine Ok.ix_t ?_); refine ⟨_, rfl, ?_⟩) | ((with_reducible refine Ok.ix_l ?_); refine ⟨_, rfl, ?_⟩) | ((with_reducible refine Ok.tgT ?_ ?_); exact rfl) | with_reducible refine Ok.sli_t ?_ | with_reducible refine Ok.sli_l ?_ | ((with_reducible refine Ok.mod_ii ?_ ?_); (first | decide | (simp; done) | (simp; omega))) | ((with_reducible refine Ok.add_tt ?_ ?_); (first | decide | (simp; done) | (simp; omega))) | ((with_reducible refine Ok.add_ll ?_ ?_); (first | decide | (simp; done) | (simp; omega))) | ((with_reducible refine Ok.add_ss ?_ ?_); (first | decide | (simp; done) | (simp; omega))) | ((with_reducible refine Ok.rng1 ?_ ?_); (first | decide | omega | (simp; omega))) | ((with_reducible refine Br.dt ?_ ?_); (first | assumption | exact rfl | omega | decide +kernel)) | ((with_reducible refine Br.df ?_ ?_); (first | assumption | omega | decide +kernel)) | ((with_reducible refine Br.tt ?_ ?_); (first | assumption | decide +kernel)) | ((with_reducible refine Br.ff ?_ ?_); (first | assumption | decide +kernel)) | ((with_reducible refine Ok.isi_tup (p := true) ?_ ?_); decide +kernel) | ((with_reducible refine Ok.isi_tup (p := false) ?_ ?_); decide +kernel) | ((with_reducible refine Ok.isi_int (p := true) ?_ ?_); decide +kernel) | ((with_reducible refine Ok.isi_int (p := false) ?_ ?_); decide +kernel) | ((with_reducible refine Ok.isi_str (p := true) ?_ ?_); decide +kernel) | ((with_reducible refine Ok.isi_str (p := false) ?_ ?_); decide +kernel) | ((with_reducible refine Ok.isi_lst (p := true) ?_ ?_); decide +kernel) | ((with_reducible refine Ok.isi_lst (p := false) ?_ ?_); decide +kernel) | ((with_reducible refine Ok.isi_bl (p := true) ?_ ?_); decide +kernel) | ((with_reducible refine Ok.isi_bl (p := false) ?_ ?_); decide +kernel) | ((with_reducible refine Ok.isi_non (p := true) ?_ ?_); decide +kernel) | ((with_reducible refine Ok.isi_non (p := false) ?_ ?_); decide +kernel) | ((with_reducible refine Ok.isi_ctu (p := true) ?_ ?_); decide +kernel) | ((with_reducible refine Ok.isi_ctu (p := false) ?_ ?_); decide +kernel) | ((with_reducible refine Ok.isi_emp (p := true) ?_ ?_); decide +kernel) | ((with_reducible refine Ok.isi_emp (p := false) ?_ ?_); decide +kernel)))
section
variable {S : Store} {QD : D → Store → Prop} {size i : Int} {deep w : Str} {ks : List Str} {s : St} {l : D} {lv ls : List Int} {k : Ky}
def DIG10 : List Str := ["0", "1", "2", "3", "4", "5", "6", "7", "8", "9"]
def ABCD : List Str := ["a", "b", "c", "d"]
end
end DL.Lc
/-! ### pads: the law's own reckoning -/
namespace DL.Lc
open PySem PySem.Spec PyProof.Rows L2 DL
noncomputable def L_x_led_1 : SM := asgF 1 (calF (fun xs => F_x_press (xs ++ [])) [varF 0, varF 1, varF 4, varF 3])
noncomputable def B_x_led : SM := seqS (forF (itF (varF 2)) (tgName 4) (L_x_led_1)) (retF (varF 1))
noncomputable abbrev F_x_led : List D → M D := defF 5 B_x_led
local macro_rules | `(tactic| and_intros) => `(tactic| repeat (first | with_reducible refine StpA.go ?_ | with_reducible refine StpB.go ?_ | ((with_reducible refine Ok.var ?_); refine ⟨_, rfl, ?_⟩) | ((with_reducible refine Fr.go ?_); intro fr_ e_; simp only [List.set_cons_zero, List.set_cons_succ, setAll, wipeF] at e_; subst e_) | with_reducible refine Ok.sli_tail ?_ | ((with_reducible refine OkS.aug ?_); refine ⟨_, rfl, ?_⟩) | ((with_reducible refine Ok.ix_t ?_); refine ⟨_, rfl, ?_⟩) | ((with_reducible refine Ok.ix_l ?_); refine ⟨_, rfl, ?_⟩) | ((with_reducible refine Ok.tgT ?_ ?_); exact rfl) | with_reducible refine Ok.sli_t ?_ | with_reducible refine Ok.sli_l ?_ | ((with_reducible refine Ok.mod_ii ?_ ?_); (first | decide | (simp; done) | (simp; omega))) | ((with_reducible refine Ok.add_tt ?_ ?_); (first | decide | (simp; done) | (simp; omega))) | ((with_reducible refine Ok.add_ll ?_ ?_); (first | decide | (simp; done) | (simp; omega))) | ((with_reducible refine Ok.add_ss ?_ ?_); (first | decide | (simp; done) | (simp; omega))) | ((with_reducible refine Ok.rng1 ?_ ?_); (first | decide | omega | (simp; omega))) | ((with_reducible refine Br.dt ?_ ?_); (first | assumption | exact rfl | omega | decide +kernel)) | ((with_reducible refine Br.df ?_ ?_); (first | assumption | omega | decide +kernel)) | ((with_reducible refine Br.tt ?_ ?_); (first | assumption | decide +kernel)) | ((with_reducible refine Br.ff ?_ ?_); (first | assumption | decide +kernel)) | ((with_reducible refine Ok.isi_tup (p := true) ?_ ?_); decide +kernel) | ((with_reducible refine Ok.isi_tup (p := false) ?_ ?_); decide +kernel) | ((with_reducible refine Ok.isi_int (p := true) ?_ ?_); decide +kernel) | ((with_reducible refine Ok.isi_int (p := false) ?_ ?_); decide +kernel) | ((with_reducible refine Ok.isi_str (p := true) ?_ ?_); decide +kernel) | ((with_reducible refine Ok.isi_str (p := false) ?_ ?_); decide +kernel) | ((with_reducible refine Ok.isi_lst (p := true) ?_ ?_); decide +kernel) | ((with_reducible refine Ok.isi_lst (p := false) ?_ ?_); decide +kernel) | ((with_reducible refine Ok.isi_bl (p := true) ?_ ?_); decide +kernel) | ((with_reducible refine Ok.isi_bl (p := false) ?_ ?_); decide +kernel) | ((with_reducible refine Ok.isi_non (p := true) ?_ ?_); decide +kernel) | ((with_reducible refine Ok.isi_non (p := false) ?_ ?_); decide +kernel) | ((with_reducible refine Ok.isi_ctu (p := true) ?_ ?_); decide +kernel) | ((with_reducible refine Ok.isi_ctu (p := false) ?_ ?_); decide +kernel) | ((with_reducible refine Ok.isi_emp (p := true) ?_ ?_); decide +kernel) | ((with_reducible refine Ok.isi_emp (p := false) ?_ ?_); decide +kernel)))
section
variable {S : Store} {QD : D → Store → Prop} {QS : Fl → DL.Frame → Store → Prop} {size : Int} {deep : Str} {ks : List Str} {s : DL.St} {l : D} {ls : List Int}
end
end DL.Lc
namespace DL
open PySem PySem.Spec PyProof.Rows L2
/-! ### str, f-strings and repr of ints up to 4300 digits, beside {} -/
def orM (F G : List D → M D) (xs : List D) : M D := fun S => match F xs S with
  | .bad => G xs S
  | r => r
section
variable {X : Cx} {W : WE} {v : Value} {F G : List D → M D}
end
def reprH : List D → M D := orM reprE reprG
section
variable {prog : Program} {w : World} {A : Around} {E : Value → Shared → Prop} {s : Shared} {a : Int} {t : Tok}
open PySem.Builtin PySem.Builtin.Str PySem.Builtin.Int
end
def strG (xs : List D) : M D := fun S => match xs with
  | [.int i] => if i.natAbs < 10 ^ 4300 then .ok (.str (toString i)) S else .bad
  | _ => strD xs S
def fmtG (x : D) : M D := fun S => match x with
  | .int i => if i.natAbs < 10 ^ 4300 then .ok (.str (toString i)) S else .bad
  | _ => fmtD x S
section
variable {X : Cx} {W : WE} {e : Expr} {fe : Frame → M D} {pos : Pos} {te : TE}
def tFmtG (te : TE) : TE := fun σ H Q => te σ H fun x H1 => (∃ y : Str, x = .str y ∧ y.length ≤ sizeLine ∧ Q (.str y) H1) ∨ ∃ i : Int, x = .int i ∧ i.natAbs < 10 ^ 4300 ∧ Q (.str (toString i)) H1
end
/-! the law's run: the dict of modules, and no limit of digits -/
/-- what the law's run must show, from the abstract heap in which the script alone may be tracked -/
def LawRunB (P : Program) (w : World) (K : PySem.W.Frag) (mg : Str → Option Value) (fa : Addr) : Prop :=
  ∀ (base : Heap) (s : Shared) (H : Hp) (a : Addr) (ns : List Int), K.In base → base.Ns mainGlobals mg → (∃ mm, base.Ns sysModules mm) → base.NoDigits → Env0 P w K mg base callerA [] s H → Ls K H a (ns.map V.int) → ns.length ≤ 63 →
    codeAny (model P w) callerA (.call (.ref fa) ⟨[.ref a], []⟩) (CR CX0 [] P w H s (fun v _ => v = .bl true) E0) s
end DL
/-! ### sets of tuples of any items whose kind is known -/
namespace DL
open PySem PySem.Spec PyProof.Rows L2
section
variable {K : Type} [DecidableEq K] {P : Program} {w : World} {knd : KeyKind P w K} {A : Around} {E : Value → Shared → Prop} {s : Shared}
/-- items at which nothing is asked of a class statement -/
structure Qt (knd : KeyKind P w K) : Prop where
  cls : ∀ (k : K) (v : Value), knd.is k v = true → ∀ n, ofAClassStatement n v = pure false
  val : ∀ (k : K) (v : Value), knd.is k v = true → ∀ n, ∃ b, hashByValue n v = pure b
abbrev TI (knd : KeyKind P w K) (h : Heap) (k : List K) (a : Addr) : Prop := IsTupleKey knd h k a
abbrev TH (knd : KeyKind P w K) (k : List K) : Int := tupleKeyHash knd k
def Good1 (knd : KeyKind P w K) (v : Value) : Prop := ∃ k, knd.is k v = true
theorem good_all {ks : List K} {vs : List Value} (h : PySem.ItemsAre knd ks vs) : ∀ v ∈ vs, Good1 knd v := by
  induction h with
  | nil => exact fun v hv => absurd hv (by simp)
  | cons h1 _ ih => exact fun v hv => (List.mem_cons.mp hv).elim (fun e => e ▸ ⟨_, h1⟩) (ih v)
theorem no_class (q : Qt knd) {k : List K} {b : Addr} {Q : Bool → Shared → Prop} (hk : TI knd s.heap k b) (h : Q false s) : wpAny (model P w) A (ofAClassStatement 8 (.ref b)) Q E s := by
  have ty := hk.typeIs
  obtain ⟨o, items, n, ho, _, hd, hi⟩ := hk
  unfold ofAClassStatement
  refine wpAny_bind (wpAny_typeOf ty ?_)
  have e : (("tuple" : String) == "tuple") = true := by decide
  simp only [e, if_true, Bool.not_true, Bool.false_eq_true, if_false]
  try refine wpAny_bind (wpAny_pure ?_)
  try simp only [Bool.not_true, Bool.false_eq_true, if_false]
  show wpAny _ _ (seqItems? (.ref b) >>= _) _ _ s
  refine wpAny_bind (wpAny_seqItems ho hd (wpAny_bind ?_))
  show wpAny _ _ (forIn items _ _) _ _ s
  rw [← Array.forIn_toList]
  refine wpAny_forIn_list _ (fun rest r s' => (r.1 = none ∧ s' = s) ∧ ∀ v ∈ rest, Good1 knd v) _ ?_ ?_ _ _ ⟨⟨rfl, rfl⟩, good_all hi⟩
  · rintro v rest r s' ⟨⟨hr, rfl⟩, all⟩
    obtain ⟨k, hv⟩ := all v List.mem_cons_self
    rw [q.cls k v hv]
    refine wpAny_bind (wpAny_pure ?_)
    simp only [Bool.false_eq_true, if_false]
    exact wpAny_pure ⟨⟨rfl, rfl⟩, fun u hu => all u (List.mem_cons_of_mem _ hu)⟩
  · rintro ⟨r1, r2⟩ s' ⟨⟨hr, rfl⟩, _⟩
    obtain rfl : r1 = none := hr
    exact wpAny_pure h
theorem by_value (q : Qt knd) {k : List K} {b : Addr} {Q : Bool → Shared → Prop} (hk : TI knd s.heap k b) (h : ∀ x, Q x s) : wpAny (model P w) A (hashByValue 8 (.ref b)) Q E s := by
  have ty := hk.typeIs
  obtain ⟨o, items, n, ho, _, hd, hi⟩ := hk
  unfold hashByValue
  refine wpAny_bind (wpAny_specialOf ty F.slot_tuple_hash.lookup ?_)
  show wpAny _ _ (seqItems? (.ref b) >>= _) _ _ s
  refine wpAny_bind (wpAny_seqItems ho hd (wpAny_bind ?_))
  show wpAny _ _ (forIn items _ _) _ _ s
  rw [← Array.forIn_toList]
  refine wpAny_forIn_list _ (fun rest r s' => (r.1 = none ∧ s' = s) ∧ ∀ v ∈ rest, Good1 knd v) _ ?_ ?_ _ _ ⟨⟨rfl, rfl⟩, good_all hi⟩
  · rintro v rest r s' ⟨⟨hr, rfl⟩, all⟩
    obtain ⟨k, hv⟩ := all v List.mem_cons_self
    obtain ⟨x, hx⟩ := q.val k v hv 7
    rw [hx]
    refine wpAny_bind (wpAny_pure ?_)
    cases x with
    | true => exact wpAny_pure ⟨⟨rfl, rfl⟩, fun u hu => all u (List.mem_cons_of_mem _ hu)⟩
    | false => exact wpAny_pure (wpAny_pure (h false))
  · rintro ⟨r1, r2⟩ s' ⟨⟨hr, rfl⟩, _⟩
    obtain rfl : r1 = none := hr
    exact wpAny_pure (h true)
theorem not_seen (q : Qt knd) {k : List K} {b : Addr} {Q : Bool → Shared → Prop} (hk : TI knd s.heap k b) {ys : List Value} (hy : ∀ y ∈ ys, ∃ k2 c, y = Value.ref c ∧ TI knd s.heap k2 c) (h : Q false s) :
    wpAny (model P w) A (searchCouldBeSeen (.ref b) ys) Q E s := by
  unfold searchCouldBeSeen
  refine wpAny_bind (wpAny_forIn_list _ (fun rest r s' => (r.1 = none ∧ s' = s) ∧ ∀ y ∈ rest, ∃ k2 c, y = Value.ref c ∧ TI knd s.heap k2 c) _ ?_ ?_ _ _ ⟨⟨rfl, rfl⟩, hy⟩)
  · rintro v rest r s' ⟨⟨hr, rfl⟩, all⟩
    obtain ⟨k2, c, rfl, hc⟩ := all v List.mem_cons_self
    have left : (none : Option Bool) = none ∧ s' = s' := ⟨rfl, rfl⟩
    have more : ∀ y ∈ rest, ∃ k2 c, y = Value.ref c ∧ TI knd s'.heap k2 c := fun u hu => all u (List.mem_cons_of_mem _ hu)
    dsimp only
    rcases Classical.em ((b == c || (carriedByValue (.ref b) && carriedByValue (.ref c))) = true) with hv | hv
    · exact wp_if_pos hv (wpAny_pure ⟨left, more⟩)
    · refine wp_if_neg hv (wpAny_bind (wpAny_eqIsQuiet_tuple hk ?_))
      simp only [Bool.not_true, Bool.false_eq_true, if_false]
      refine wpAny_bind (wpAny_eqIsQuiet_tuple hc ?_)
      simp only [Bool.not_true, Bool.false_eq_true, if_false]
      refine wpAny_bind (no_class q hk ?_)
      simp only [Bool.false_eq_true, if_false]
      refine wpAny_bind (no_class q hc ?_)
      simp only [Bool.false_eq_true, if_false]
      exact wpAny_pure ⟨left, more⟩
  · rintro ⟨r1, r2⟩ s' ⟨⟨hr, rfl⟩, _⟩
    obtain rfl : r1 = none := hr
    exact wpAny_pure h
end
/-! ### the set -/
section
variable {K : Type} [DecidableEq K] {P : Program} {w : World} {knd : KeyKind P w K} {A : Around} {E : Value → Shared → Prop} {s : Shared} {a : Addr} {L : List (List K × Addr)} {o : Obj} {es : Array (Int × Value)} {ep : Nat} {t : SetTable}
def ent (knd : KeyKind P w K) (p : List K × Addr) : Int × Value := (TH knd p.1, .ref p.2)
abbrev hsh (knd : KeyKind P w K) (L : List (List K × Addr)) : List Int := L.map fun p => TH knd p.1
/-- the set at a lies so: entry by entry the tuples of L, each found again from its hash -/
structure Ts (knd : KeyKind P w K) (h : Heap) (a : Addr) (L : List (List K × Addr)) (o : Obj) (es : Array (Int × Value)) (ep : Nat) (t : SetTable) : Prop where
  at_ : h.get? a = some o
  ex : o.ExactSet
  dat : o.data = .set es ep t
  rows : es.toList = L.map (ent knd)
  tab : TabOk t (hsh knd L)
  uniq : (L.map (·.1)).Nodup
  keys : ∀ p ∈ L, TI knd h p.1 p.2
  led : w.params.followText "set-order" = true ∨ t.led = true
  room : L.length * 5 < t.mask * 3
theorem Ts.size (R : Ts knd s.heap a L o es ep t) : es.size = L.length := by rw [← Array.length_toList, R.rows, List.length_map]
theorem Ts.fit (R : Ts knd s.heap a L o es ep t) : t.fits es.size = true := by
  have z := R.tab.sz
  rw [List.length_map] at z
  have := R.room
  unfold SetTable.fits SetTable.fill
  simp only [R.tab.dm, R.size, Bool.and_eq_true, beq_iff_eq, decide_eq_true_eq]
  exact ⟨z, by show t.place.size + 0 ≤ t.mask; omega⟩
theorem Ts.get (R : Ts knd s.heap a L o es ep t) {i : Nat} {p : List K × Addr} (h : L[i]? = some p) : es[i]? = some (ent knd p) := by rw [← Array.getElem?_toList, R.rows, List.getElem?_map, h]; rfl
/-- the slot that a search with this hash looks at behind c steps -/
abbrev stp (t : SetTable) (h : Int) (c : Nat) : SetTable.Probe := nth t.mask (runAt t.mask (SetTable.bits h % (t.mask + 1)) (SetTable.bits h)) c
theorem stp_add (t : SetTable) (h : Int) (c d : Nat) : nth t.mask (stp t h c) d = stp t h (c + d) := (nth_add t.mask c _ d).symm
theorem stp_dummy (t : SetTable) (h : Int) : ∀ c, (stp t h c).dummy = none
  | 0 => rfl
  | c + 1 => by
    show (nth t.mask (runAt t.mask (SetTable.bits h % (t.mask + 1)) (SetTable.bits h)) (c + 1)).dummy = none
    rw [nth_succ]
    have := stp_dummy t h c
    unfold adv
    split <;> exact this
/-- no tuple k among the places that a search has passed -/
def Passed (t : SetTable) (L : List (List K × Addr)) (h : Int) (k : List K) (c : Nat) : Prop := ∀ (i : Nat) (p : List K × Addr), L[i]? = some p → p.1 = k → ∀ c', c' < c → t.place.toList[i]? ≠ some (way t.mask h c')
theorem seek (q : Qt knd) (R : Ts knd s.heap a L o es ep t) {x : Addr} {k : List K} (hx : TI knd s.heap k x) (hu : A.units < cLine) {n : Nat} (hn : n < 10 * SetTable.turns t.mask) (hfree : way t.mask (TH knd k) n ∉ t.place.toList) (hfull : ∀ c, c < n → way t.mask (TH knd k) c ∈ t.place.toList) {Q : SetFound → Shared → Prop}
    (yes : k ∈ L.map (·.1) → Q (.there none) s) (no : k ∉ L.map (·.1) → Q (.free (way t.mask (TH knd k) n) false) s) :
    ∀ (f c : Nat) (st : Option SetTable.Probe), st.getD (t.probeStart (TH knd k)) = stp t (TH knd k) c → c ≤ n → n < c + f → Passed t L (TH knd k) k c → wpAny (model P w) A (setSearchFrom a (.ref x) (TH knd k) true f st) Q E s := by
  intro f
  induction f with
  | zero => exact fun c st _ h1 h2 => absurd h2 (by omega)
  | succ f ih =>
    intro c st hst hc hf hp
    rw [setSearchFrom_succ]
    refine wpAny_bind (wpAny_setState_of R.at_ R.dat R.fit ?_)
    have odd : ¬ t.gaveWay = true := by unfold SetTable.gaveWay; rw [mask_odd R.tab.mok]; decide
    refine wp_if_neg odd ?_
    try refine wpAny_bind (wpAny_pure ?_)
    have hat : ∀ (i : Nat) (p : List K × Addr), L[i]? = some p → (es[i]?.map (·.1)).getD 0 = TH knd p.1 := fun i p e => by rw [R.get e]; rfl
    have wj : ∀ d, (nth t.mask (stp t (TH knd k) c) d).j = way t.mask (TH knd k) (c + d) := fun d => by rw [stp_add]
    have spec := go_spec t R.tab.ris R.tab.dm (fun i => (es[i]?.map (·.1)).getD 0) (TH knd k) (10 * SetTable.turns t.mask) (n - c) (stp t (TH knd k) c) (stp_dummy _ _ _) (by omega)
      (fun d hd => by rw [wj]; exact hfull _ (by omega)) (by rw [wj, show c + (n - c) = n by omega]; exact hfree)
    rcases spec with ⟨d, i, hd, hi, hh, hno, pr⟩ | ⟨hno, pr⟩
    · have e1 : t.probe (fun i => (es[i]?.map (·.1)).getD 0) (TH knd k) (st.getD (t.probeStart (TH knd k))) = some (.candidate (way t.mask (TH knd k) (c + d)) i (stp t (TH knd k) (c + (d + 1)))) := by
        rw [hst, ← wj, ← stp_add]
        exact pr
      rw [e1]
      rw [wj] at hi
      have live : t.slot (way t.mask (TH knd k) (c + d)) = .live i := slot_live R.tab.ris hi
      have hil : i < L.length := by
        have z := (List.getElem?_eq_some_iff.mp hi).1
        rw [Array.length_toList, R.tab.sz, List.length_map] at z
        exact z
      obtain ⟨p, hpi⟩ : ∃ p, L[i]? = some p := ⟨_, List.getElem?_eq_getElem hil⟩
      have hpm : p ∈ L := List.mem_of_getElem? hpi
      have there : wpAny (model P w) A (searchRest a (.ref x) (TH knd k) true f es t (way t.mask (TH knd k) (c + d)) i (stp t (TH knd k) (c + (d + 1)))) Q E s := by
        unfold searchRest
        rw [R.get hpi]
        refine wpAny_bind (wpAny_holding (wpAny_eqBool_tuple hu (R.keys p hpm) hx (wpAny_bind (wpAny_setState_of R.at_ R.dat R.fit ?_))))
        by_cases hk : p.1 = k
        · refine wp_if_pos (by simp [hk]) (wpAny_pure (yes (List.mem_map.mpr ⟨p, hpm, hk⟩)))
        · refine wp_if_neg (by simp [hk]) ?_
          try refine wpAny_bind (wpAny_pure ?_)
          rw [sameMem]
          simp only [if_true, live, R.get hpi]
          refine wpAny_bind (wpAny_isSame_ref_self (wpAny_bind (wpAny_pure ?_)))
          simp only [if_true]
          refine wp_if_neg (by simp [hk]) (ih (c + (d + 1)) _ rfl (by omega) (by omega) fun i2 p2 h2 hk2 c' hc' hj => ?_)
          rcases Nat.lt_trichotomy c' (c + d) with lt | eq | gt
          · rcases Nat.lt_or_ge c' c with l2 | g2
            · exact hp i2 p2 h2 hk2 c' l2 hj
            · exact hno (c' - c) i2 (by omega) (by rw [wj, show c + (c' - c) = c' by omega]; exact hj) ((hat i2 p2 h2).trans (by rw [hk2]))
          · subst eq
            have two := slot_live R.tab.ris hj
            rw [live] at two
            cases two
            rw [hpi] at h2
            cases h2
            exact hk hk2
          · omega
      by_cases hl : t.led = true
      · refine wp_if_neg (by simp [hl]) ?_
        try refine wpAny_bind (wpAny_pure ?_)
        exact there
      · refine wp_if_pos (by simp [hl]) (wpAny_bind (not_seen q hx (fun y hy => ?_) ?_))
        · obtain ⟨e, he, rfl⟩ := List.mem_map.mp hy
          have he2 : e ∈ es.toList := by
            have : e ∈ es ∧ e.1 = TH knd k := by simpa using he
            simpa using this.1
          rw [R.rows] at he2
          obtain ⟨p2, hp2, rfl⟩ := List.mem_map.mp he2
          exact ⟨p2.1, p2.2, rfl, R.keys p2 hp2⟩
        · refine wp_if_neg (by decide) ?_
          try refine wpAny_bind (wpAny_pure ?_)
          exact there
    · have e1 : t.probe (fun i => (es[i]?.map (·.1)).getD 0) (TH knd k) (st.getD (t.probeStart (TH knd k))) = some (.empty (way t.mask (TH knd k) n) none) := by
        have : way t.mask (TH knd k) n = (nth t.mask (stp t (TH knd k) c) (n - c)).j := by rw [wj, show c + (n - c) = n by omega]
        rw [hst, this]
        exact pr
      rw [e1]
      refine wpAny_pure (no fun hm => ?_)
      obtain ⟨p, hpm, rfl⟩ := List.mem_map.mp hm
      obtain ⟨i, hi⟩ := List.mem_iff_getElem?.mp hpm
      have hpl : i < t.place.toList.length := by
        rw [Array.length_toList, R.tab.sz, List.length_map]
        exact (List.getElem?_eq_some_iff.mp hi).1
      have hj := List.getElem?_eq_getElem hpl
      obtain ⟨c', hc', ej⟩ := R.tab.before hfree (i := i) (by rw [List.getElem?_map, hi]; rfl) hj
      rcases Nat.lt_or_ge c' c with lt | ge
      · exact hp i p hi rfl c' lt (by rw [hj, ← ej])
      · exact hno (c' - c) i (by omega) (by rw [wj, show c + (c' - c) = c' by omega, ej]; exact hj) (hat i p hi)
/-- a tuple is not the set -/
theorem tup_same {h h' : Heap} {k : List K} {b : Addr} (hk : TI knd h k b) (ga : h.get? a = some o) (dat : o.data = .set es ep t) (same : Heap.SameBut a h h') : TI knd h' k b := by
  obtain ⟨o2, items, n, h1, h2, h3, h4⟩ := hk
  have ne : b ≠ a := fun z => by
    subst z
    rw [h1] at ga
    cases ga
    rw [h3] at dat
    cases dat
  exact ⟨o2, items, n, (same.2 b ne).trans h1, h2, h3, h4⟩
theorem find (q : Qt knd) (R : Ts knd s.heap a L o es ep t) {x : Addr} {k : List K} (hx : TI knd s.heap k x) (hu : A.units < cLine) {Q : SetFound → Shared → Prop} (yes : k ∈ L.map (·.1) → Q (.there none) s)
    (no : ∀ n, k ∉ L.map (·.1) → way t.mask (TH knd k) n ∉ t.place.toList → (∀ c, c < n → way t.mask (TH knd k) c ∈ t.place.toList) → Q (.free (way t.mask (TH knd k) n) false) s) : wpAny (model P w) A (setSearch a (.ref x) (TH knd k) true) Q E s := by
  have room := R.room
  obtain ⟨n, hn, hfree, hfull⟩ := R.tab.first (by rw [List.length_map]; omega) (TH knd k)
  have big : n < 100000 := by
    have : SetTable.turns t.mask ≤ 142 := by
      unfold SetTable.turns
      rcases R.tab.mok with e | e | e <;> omega
    omega
  unfold setSearch
  exact seek q R hx hu hn hfree hfull yes (fun h => no n h hfree hfull) 100000 0 none rfl (Nat.zero_le _) (by omega) fun _ _ _ _ _ z => absurd z (Nat.not_lt_zero _)
theorem range_pick {α : Type} (l : List α) : ∀ n, (List.range n).filterMap (fun i => l[i]?) = l.take n
  | 0 => rfl
  | n + 1 => by
    rw [List.range_succ, List.filterMap_append, range_pick l n, List.take_succ]
    cases e : l[n]? <;> simp [e]
/-- the table is laid anew, larger -/
theorem wider (ga : s.heap.get? a = some o) (ex : o.ExactSet) (dat : o.data = .set es ep t) (rows : es.toList = L.map (ent knd)) (T : TabOk t (hsh knd L)) (uniq : (L.map (·.1)).Nodup) (keys : ∀ p ∈ L, TI knd s.heap p.1 p.2) (led : w.params.followText "set-order" = true ∨ t.led = true) (hfl : L.length ≤ t.mask)
    {wanted M : Nat} (hw : SetTable.sizeAbove wanted - 1 = M) (hM : MaskOk M) (h128 : SetTable.sizeAbove wanted ≤ 128) (room : L.length * 5 < M * 3) {Q : Unit → Shared → Prop}
    (k : ∀ h' L' o' es' ep' t', Heap.SameBut a s.heap h' → Ts knd h' a L' o' es' ep' t' → L'.Perm L → Q () { s with heap := h' }) : wpAny (model P w) A (setRelay a wanted) Q E s := by
  have sz : es.size = L.length := by rw [← Array.length_toList, rows, List.length_map]
  have pz := T.sz
  rw [List.length_map] at pz
  have fit : t.fits es.size = true := by
    unfold SetTable.fits SetTable.fill
    simp only [T.dm, sz, Bool.and_eq_true, beq_iff_eq, decide_eq_true_eq]
    exact ⟨pz, by show t.place.size + 0 ≤ t.mask; omega⟩
  obtain ⟨t2, order, e, perm, T2, m2, l2, _, _⟩ := relaid_ok t (hs := es.map (·.1)) hw hM (by rw [Array.size_map, sz]; omega)
  rw [Array.size_map, sz] at perm
  -- the entries in their new order
  have lt : ∀ i ∈ order.toList, i < L.length := fun i hi => List.mem_range.mp (perm.mem_iff.mp hi)
  have pick : ∀ l : List Nat, (∀ i ∈ l, i < L.length) → l.filterMap (fun i => es[i]?) = (l.filterMap fun i => L[i]?).map (ent knd) ∧ hsh knd (l.filterMap fun i => L[i]?) = l.map fun i => (es.map (·.1)).getD i 0 := by
    intro l
    induction l with
    | nil => exact fun _ => ⟨rfl, rfl⟩
    | cons i r ih =>
      intro h
      obtain ⟨i1, i2⟩ := ih fun j hj => h j (List.mem_cons_of_mem _ hj)
      have hi := h i List.mem_cons_self
      have e1 : L[i]? = some L[i] := List.getElem?_eq_getElem hi
      have e2 : es[i]? = some (ent knd L[i]) := by rw [← Array.getElem?_toList, rows, List.getElem?_map, e1]; rfl
      have e3 : (es.map (·.1)).getD i 0 = TH knd (L[i]).1 := by
        rw [Array.getD_eq_getD_getElem?, Array.getElem?_map, e2]
        rfl
      refine ⟨?_, ?_⟩
      · rw [List.filterMap_cons, List.filterMap_cons, e1, e2, List.map_cons, ← i1]
      · rw [List.filterMap_cons, e1, List.map_cons, ← i2, e3]
        rfl
  obtain ⟨p1, p2⟩ := pick order.toList lt
  have permL : (order.toList.filterMap fun i => L[i]?).Perm L := by
    refine (perm.filterMap fun i => L[i]?).trans (List.Perm.of_eq ?_)
    rw [range_pick, List.take_length]
  generalize order.toList.filterMap (fun i => L[i]?) = L2 at p1 p2 permL
  rw [← p2] at T2
  have rows2 : (order.filterMap (es[·]?)).toList = L2.map (ent knd) := by rw [Array.toList_filterMap]; exact p1
  have sz2 : (order.filterMap (es[·]?)).size = L.length := by rw [← Array.length_toList, rows2, List.length_map, permL.length_eq]
  rw [setRelay_eq]
  refine wpAny_bind (wpAny_setState_of ga dat fit (wp_if_neg (by rw [sizeLine_eq]; omega) ?_))
  try refine wpAny_bind (wpAny_pure ?_)
  rw [e]
  refine wpAny_bind (wp_if_neg (by rw [sz2, sz]; simp) ?_)
  try refine wpAny_bind (wpAny_pure ?_)
  refine wpAny_pure (wpAny_storeSet_of ga dat ?_ (by rw [sz2, sizeLine_eq]; omega))
  have same : Heap.SameBut a s.heap (s.heap.update a (Obj.putSet (order.filterMap (es[·]?)) t2)) := Heap.SameBut.update ..
  refine k _ L2 _ _ (ep + 1) t2 same ⟨store_at ga dat, ⟨ex.1, ex.2.1, ex.2.2⟩, rfl, rows2, T2, (permL.map (·.1)).nodup_iff.mpr uniq, fun p hp => ?_, by rw [l2]; exact led, by rw [permL.length_eq, m2]; exact room⟩ permL
  exact tup_same (keys p (permL.mem_iff.mp hp)) ga dat same
theorem TabOk.off {t : SetTable} {hs : List Int} (T : TabOk t hs) : TabOk { t with plain := false } hs := ⟨T.ris, T.dm, T.sz, T.mok, T.bd, T.reach⟩
/-- what comes of a set that a tuple is put into -/
def More (knd : KeyKind P w K) (a : Addr) (L : List (List K × Addr)) (k : List K) (x : Addr) (h' : Heap) : Prop := ∃ L' o es ep t, Ts knd h' a L' o es ep t ∧ ((k ∈ L.map (·.1) ∧ L' = L) ∨ (k ∉ L.map (·.1) ∧ L'.Perm ((k, x) :: L)))
theorem put_in (q : Qt knd) (R : Ts knd s.heap a L o es ep t) {x : Addr} {k : List K} (hx : TI knd s.heap k x) (hu : A.units < cLine) (few : L.length < 70) {Q : Bool → Shared → Prop} (hQ : ∀ b h', Heap.SameBut a s.heap h' → More knd a L k x h' → Q b { s with heap := h' }) :
    wpAny (model P w) A (setAddHashed a (.ref x) (TH knd k)) Q E s := by
  have room := R.room
  have sz := R.size
  unfold setAddHashed
  refine wpAny_holding ?_
  rw [show (100000 : Nat) = 99999 + 1 from rfl, setAddHashedIn_succ]
  refine wpAny_bind (wpAny_setState_of R.at_ R.dat R.fit (wp_if_neg (by simp [byScan, Value.scannable]) ?_))
  try refine wpAny_bind (wpAny_pure ?_)
  refine wpAny_bind (find q R hx hu (fun hm => wpAny_pure (hQ false s.heap (Heap.SameBut.refl a s.heap) ⟨L, o, es, ep, t, R, .inl ⟨hm, rfl⟩⟩)) fun n hm hfree hfull => ?_)
  refine wpAny_bind (wpAny_setState_of R.at_ R.dat R.fit ?_)
  obtain ⟨b1, b2, b3, b4, b5, b6, b7, b8, b9⟩ := R.tab.put hfree hfull
  dsimp only
  generalize t.put (way t.mask (TH knd k) n) = pt at b1 b3 b4 b5 b6 b7 b8 b9 ⊢
  obtain ⟨t1, p⟩ := pt
  dsimp only at b1 b3 b4 b5 b6 b7 b8 b9 ⊢
  rw [← b1] at b2 b3
  clear b1
  -- whatever is said of how the tuple hashes
  have rest : ∀ v : Bool, wpAny (model P w) A (storeSet a (SetTable.insertAt es p (TH knd k, .ref x)) (if v = true then t1 else { t1 with plain := false }) >>= fun _ =>
      if (!false && (if v = true then t1 else { t1 with plain := false }).tooFull) = true then setRelay a (SetTable.grown (es.size + 1)) >>= fun _ => pure true else pure true) Q E s := by
    intro v
    obtain ⟨t2, e2⟩ : ∃ t2, t2 = (if v = true then t1 else { t1 with plain := false }) := ⟨_, rfl⟩
    have T2 : TabOk t2 ((hsh knd L).take p ++ TH knd k :: (hsh knd L).drop p) ∧ t2.mask = t.mask ∧ t2.led = t.led ∧ t2.fill = L.length + 1 := by
      rw [List.length_map] at b9
      subst e2
      cases v with
      | true => exact ⟨b3, b4, b5, b9⟩
      | false => exact ⟨DL.TabOk.off b3, b4, b5, b9⟩
    rw [← e2]
    clear e2 b3 b4 b5 b6 b7 b8 b9
    obtain ⟨T2, m2, l2, f2⟩ := T2
    obtain ⟨L1, e1⟩ : ∃ L1, L1 = L.take p ++ (k, x) :: L.drop p := ⟨_, rfl⟩
    have perm : L1.Perm ((k, x) :: L) := by
      rw [e1]
      refine List.perm_middle.trans ?_
      rw [List.take_append_drop]
    have rows1 : (SetTable.insertAt es p (TH knd k, .ref x)).toList = L1.map (ent knd) := by
      rw [SetTable.toList_insertAt, R.rows, e1, List.map_append, List.map_cons, List.map_take, List.map_drop]
      rfl
    rw [show (hsh knd L).take p ++ TH knd k :: (hsh knd L).drop p = hsh knd L1 from by rw [e1]; simp only [hsh, List.map_append, List.map_cons, List.map_take, List.map_drop]] at T2
    clear e1
    have len1 : L1.length = L.length + 1 := perm.length_eq
    have sz1 : (SetTable.insertAt es p (TH knd k, .ref x)).size = L1.length := by rw [← Array.length_toList, rows1, List.length_map]
    generalize SetTable.insertAt es p (TH knd k, .ref x) = es1 at rows1 sz1 ⊢
    refine wpAny_bind (wpAny_storeSet_of R.at_ R.dat ?_ (by rw [sz1, len1, sizeLine_eq]; omega))
    have same : Heap.SameBut a s.heap (s.heap.update a (Obj.putSet es1 t2)) := Heap.SameBut.update ..
    have ga1 := store_at (es' := es1) (t' := t2) R.at_ R.dat
    have keys1 : ∀ p ∈ L1, TI knd (s.heap.update a (Obj.putSet es1 t2)) p.1 p.2 := fun p hp => by
      rcases List.mem_cons.mp (perm.mem_iff.mp hp) with rfl | hp
      · exact tup_same hx R.at_ R.dat same
      · exact tup_same (R.keys p hp) R.at_ R.dat same
    generalize s.heap.update a (Obj.putSet es1 t2) = h1 at same ga1 keys1 ⊢
    have uniq1 : (L1.map (·.1)).Nodup := (perm.map (·.1)).nodup_iff.mpr (by rw [List.map_cons]; exact List.nodup_cons.mpr ⟨hm, R.uniq⟩)
    have led1 : w.params.followText "set-order" = true ∨ t2.led = true := by rw [l2]; exact R.led
    by_cases full : t2.tooFull = true
    · have hf : (L.length + 1) * 5 ≥ t.mask * 3 := by
        unfold SetTable.tooFull at full
        rw [decide_eq_true_eq, f2, m2] at full
        exact full
      first
        | (refine wpAny_bind ?_; refine wp_if_pos (by simp [full]) ?_)
        | (refine wp_if_pos (by simp [full]) ?_; refine wpAny_bind ?_)
      rw [sz]
      have go : ∀ M, SetTable.sizeAbove (SetTable.grown (L.length + 1)) = M + 1 → MaskOk M → M + 1 ≤ 128 → (L.length + 1) * 5 < M * 3 → wpAny (model P w) A (setRelay a (SetTable.grown (L.length + 1))) (fun _ s' => wpAny (model P w) A (pure true) Q E s') E { s with heap := h1 } := fun M z1 z2 z3 z4 =>
        wider (s := { s with heap := h1 }) ga1 ⟨R.ex.1, R.ex.2.1, R.ex.2.2⟩ rfl rows1 T2 uniq1 keys1 led1 (by rw [len1, m2]; omega) (by rw [z1]; rfl) z2 (by rw [z1]; exact z3) (by rw [len1]; exact z4) fun h2 L2 o2 es2 ep2 t3 same2 R2 perm2 =>
          wpAny_pure (hQ true h2 (same.trans same2) ⟨L2, o2, es2, ep2, t3, R2, .inr ⟨hm, perm2.trans perm⟩⟩)
      rcases R.tab.mok with e | e | e
      · have : L.length = 4 := by omega
        rw [this] at go ⊢
        exact go 31 size_20 (.inr (.inl rfl)) (by decide) (by decide)
      · have : L.length = 18 := by omega
        rw [this] at go ⊢
        exact go 127 size_76 (.inr (.inr rfl)) (by decide) (by decide)
      · exfalso; omega
    · first
        | refine wp_if_neg (by simp [full]) ?_
        | (refine wpAny_bind ?_; refine wp_if_neg (by simp [full]) ?_; refine wpAny_pure ?_)
      refine wpAny_pure (hQ true h1 same ⟨L1, _, es1, ep + 1, t2, ⟨ga1, ⟨R.ex.1, R.ex.2.1, R.ex.2.2⟩, rfl, rows1, T2, uniq1, keys1, led1, ?_⟩, .inr ⟨hm, perm⟩⟩)
      unfold SetTable.tooFull at full
      rw [decide_eq_true_eq, f2] at full
      rw [len1]
      omega
  cases hpl : t1.plain with
  | true =>
    first
      | (refine wpAny_bind ?_; refine wp_if_pos rfl ?_; refine by_value q hx fun v => ?_)
      | refine wp_if_pos rfl (wpAny_bind (by_value q hx fun v => ?_))
    exact rest v
  | false =>
    first
      | (refine wpAny_bind ?_; refine wp_if_neg (by decide) ?_; refine wpAny_pure ?_)
      | refine wp_if_neg (by decide) (wpAny_bind (wpAny_pure ?_))
    exact rest true
end
end DL
namespace DL
open PySem PySem.Spec PyProof.Rows L2
/-! ### sorted(set(texts)): a set of texts whose table can be walked -/
def txtOf (e : Int × Value) : Str := match e.2 with | .str k _ => k | _ => Str.empty
def GoodS (w : World) (e : Int × Value) : Prop := ∃ k tk, e.2 = Value.str k tk ∧ e.1 = hashStr w k
/-- the set of texts at a: its texts are those of L, in whatever order -/
def SetW (w : World) (h : Heap) (a : Addr) (L : List Str) : Prop :=
  ∃ o es ep t, h.get? a = some o ∧ o.ExactSet ∧ o.data = .set es ep t ∧ (∀ e ∈ es.toList, GoodS w e) ∧ (es.toList.map txtOf).Perm L ∧ es.size < scanBound ∧ t.fits es.size = true ∧ Ris t.place.toList ∧ (w.params.followText "set-order" = true ∨ t.led = true)
section
variable {P : Program} {w : World} {h h' : Heap} {a : Addr} {L : List Str}
end
section
variable {P : Program} {w : World} {A : Around} {E : Value → Shared → Prop} {s : Shared} {a : Addr} {L : List Str}
/-- one text more -/
def adj (k : Str) (L : List Str) : List Str := if k ∈ L then L else k :: L
theorem code_set_led1 {x : Value} {Q₁ : Value → Shared → Prop}
    (h : Q₁ (.ref s.heap.objs.size) { s with heap := s.heap.push { cls := .type "set", dict := none, data := .set #[] 0 (.fresh 0 0 (!w.params.followText "set-order")) } }) :
    codeAny (model P w) A (.call (.builtin "set.__new__") ⟨[.type "set", x], []⟩) (wants Q₁ E) s := by
  refine codeAny_of_tree ?_
  show wpAny _ A.in1 (do checkBuiltinCall "set.__new__" ⟨[.type "set", x], []⟩; again (.builtin "set.__new__" ⟨[.type "set", x], []⟩)) _ _ s
  refine wpAny_bind (wpAny_of_eq (F.newCall_set_1 x) (wpAny_pure ⟨plainId_quiet F.plain_set_new _, codeAny_builtin F.entry_set_new ?_⟩))
  rw [Around.under_plainId F.plain_set_new _]
  unfold Builtin.«set.__new__» Builtin.Frozenset.newClass
  have hsub := sub_set_self
  obtain ⟨hp, g, d, tk, os⟩ := s
  dsimp only
  wp_walk
  refine wpAny_askSetting (wpAny_pure ?_)
  dsimp only
  simp only [newObj]
  refine wpAny_bind (wpAny_alloc (wpAny_pure ?_))
  exact wpAny_pure h
end
/-- the first i texts, each once -/
def adjs (val : Nat → Str) : Nat → List Str
  | 0 => []
  | i + 1 => adj (val i) (adjs val i)
section
variable {prog : Program} {w : World} {A : Around} {R : Result → Shared → Prop} {I : Addr} {fp wr : List Addr} {G : Array GenState → Array GenState → Prop} {n : Nat} {P : Nat → Value → Prop} {St : Nat → Shared → Prop}
end
section
variable {prog : Program} {w : World} {A : Around} {E : Value → Shared → Prop} {s : Shared}
end
end DL
/-! ### set(l), l a list of tuples -/
namespace DL
open PySem PySem.Spec PyProof.Rows L2
section
variable {K : Type} [DecidableEq K] {P : Program} {w : World} {knd : KeyKind P w K} {A : Around} {E : Value → Shared → Prop} {s : Shared} {R : Result → Shared → Prop} {I a : Addr} {fp wr : List Addr} {G : Array GenState → Array GenState → Prop} {n : Nat} {V1 : Nat → Value → Prop} {St : Nat → Shared → Prop} {ks L : List (List K × Addr)}
theorem TI.on {h h' : Heap} {k : List K} {b : Addr} (x : TI knd h k b) (m : ∀ o, h.get? b = some o → h'.get? b = some o) : TI knd h' k b := by
  obtain ⟨o, items, n, h1, r⟩ := x
  exact ⟨o, items, n, m o h1, r⟩
/-- what a set has got of the first i tuples -/
structure Taken (ks : List (List K × Addr)) (i : Nat) (L : List (List K × Addr)) : Prop where
  sub : ∀ p ∈ L, p ∈ ks.take i
  all : ∀ p ∈ ks.take i, p.1 ∈ L.map (·.1)
  len : L.length ≤ i
theorem Taken.next {i : Nat} {p : List K × Addr} {L' : List (List K × Addr)} (T : Taken ks i L) (hp : ks[i]? = some p) (h : (p.1 ∈ L.map (·.1) ∧ L' = L) ∨ (p.1 ∉ L.map (·.1) ∧ L'.Perm ((p.1, p.2) :: L))) : Taken ks (i + 1) L' := by
  have e : ks.take (i + 1) = ks.take i ++ [p] := by rw [List.take_succ, hp]; rfl
  have up : ∀ r ∈ ks.take i, r ∈ ks.take (i + 1) := fun r hr => by rw [e]; exact List.mem_append_left _ hr
  rcases h with ⟨h, rfl⟩ | ⟨h, pm⟩
  · refine ⟨fun r hr => up r (T.sub r hr), fun r hr => ?_, Nat.le_succ_of_le T.len⟩
    rw [e] at hr
    rcases List.mem_append.mp hr with hr | hr
    · exact T.all r hr
    · rw [List.mem_singleton.mp hr]; exact h
  · have pk := pm.map (·.1)
    refine ⟨fun r hr => ?_, fun r hr => ?_, by rw [pm.length_eq]; exact Nat.succ_le_succ T.len⟩
    · rcases List.mem_cons.mp (pm.mem_iff.mp hr) with rfl | hr
      · rw [e]; exact List.mem_append_right _ List.mem_cons_self
      · exact up r (T.sub r hr)
    · refine pk.mem_iff.mpr ?_
      rw [List.map_cons]
      rw [e] at hr
      rcases List.mem_append.mp hr with hr | hr
      · exact List.mem_cons_of_mem _ (T.all r hr)
      · rw [List.mem_singleton.mp hr]; exact List.mem_cons_self
def TsX (knd : KeyKind P w K) (h : Heap) (a : Addr) (L : List (List K × Addr)) : Prop := ∃ o es ep t, Ts knd h a L o es ep t
theorem tups_loop (q : Qt knd) (W : WalksS P w A.in1 I fp wr G n V1 St) (a : Addr) (na : a ∉ fp) (hn : n = ks.length) (few : ks.length ≤ 65) (hv : ∀ i v, V1 i v → ∃ p, ks[i]? = some p ∧ v = .ref p.2) (hw : ∀ p ∈ ks, p.2 ∉ wr) (hu : A.in1.units < cLine) :
    ∀ (m i : Nat) (s : Shared), n - i = m → i ≤ n → St i s → (∀ p ∈ ks, TI knd s.heap p.1 p.2) → (∃ L, TsX knd s.heap a L ∧ Taken ks i L) →
      (∀ s' L, Moved (a :: wr) G s s' → TsX knd s'.heap a L → Taken ks n L → R (.ok (.ret .none)) s') → codeAny (model P w) A (.builtin "set.update.loop" ⟨[.ref a, .ref I], []⟩) R s := by
  have aw : a ∉ wr := fun z => na (W.sub _ z)
  have more : ∀ b ∈ wr, b ∈ a :: wr := fun b hb => List.mem_cons_of_mem _ hb
  have keyM : ∀ {s s' : Shared}, Moved wr G s s' → (∀ p ∈ ks, TI knd s.heap p.1 p.2) → ∀ p ∈ ks, TI knd s'.heap p.1 p.2 := fun hm h p hp => (h p hp).on fun o e => hm.heap p.2 o (hw p hp) e
  have setM : ∀ {s s' : Shared} {L : List (List K × Addr)} {i : Nat}, Moved wr G s s' → (∀ p ∈ ks, TI knd s'.heap p.1 p.2) → Taken ks i L → TsX knd s.heap a L → TsX knd s'.heap a L := fun hm hk T ⟨o, es, ep, t, S⟩ =>
    ⟨o, es, ep, t, ⟨hm.heap a o aw S.at_, S.ex, S.dat, S.rows, S.tab, S.uniq, fun p hp => hk p (List.mem_of_mem_take (T.sub p hp)), S.led, S.room⟩⟩
  intro m
  induction m with
  | zero =>
    intro i s hm hi st hk ⟨L, hS, T⟩ k
    obtain rfl : i = n := by omega
    refine codeAny_builtin F.entry_set_update_loop ?_
    rw [Around.under_plainId F.plain_set_update_loop _]
    show wpAny _ A.in1 (pyNext (.ref I) >>= _) _ _ s
    exact wpAny_bind (W.done s _ _ st fun s' mv => wpAny_pure (k s' L (mv.mono more) (setM mv (keyM mv hk) T hS) T))
  | succ m ih =>
    intro i s hm hi st hk ⟨L, hS, T⟩ k
    have lt : i < n := by omega
    refine codeAny_builtin F.entry_set_update_loop ?_
    rw [Around.under_plainId F.plain_set_update_loop _]
    show wpAny _ A.in1 (pyNext (.ref I) >>= _) _ _ s
    refine wpAny_bind (W.item i s _ _ lt st fun v s1 hV st1 mv => ?_)
    obtain ⟨p, hp, rfl⟩ := hv i v hV
    have hk1 := keyM mv hk
    obtain ⟨o, es, ep, t, S1⟩ := setM mv hk1 T hS
    have hx := hk1 p (List.mem_of_getElem? hp)
    show wpAny _ A.in1 (holding [Value.ref p.2] (setAdd a (.ref p.2)) >>= _) _ _ s1
    refine wpAny_bind (wpAny_holding ?_)
    unfold setAdd
    refine wpAny_holding (wpAny_bind (wpAny_pyHash_tuple hu hx ?_))
    have hl := T.len
    refine put_in (s := { s1 with toks := s1.toks + (p.1.length + 1) }) q S1 hx hu (by omega) fun b h2 same mo => ?_
    obtain ⟨L2, o2, es2, ep2, t2, S2, ch⟩ := mo
    have ne : ∀ r ∈ ks, r.2 ≠ a := fun r hr z => by
      obtain ⟨o3, items, n3, g1, _, g3, _⟩ := hk1 r hr
      rw [z, S1.at_] at g1
      cases g1
      rw [S1.dat] at g3
      cases g3
    have hk2 : ∀ r ∈ ks, TI knd h2 r.1 r.2 := fun r hr => (hk1 r hr).on fun o e => (same.2 _ (ne r hr)).trans e
    refine wpAny_pure ⟨plainId_quiet F.plain_set_update_loop _, ih (i + 1) { s1 with heap := h2, toks := s1.toks + (p.1.length + 1) } (by omega) lt (W.frame _ s1 _ _ st1 (Nat.le_add_right _ _) fun b hb o e => (same.2 b fun z => na (z ▸ hb)).trans e) hk2 ⟨L2, ⟨o2, es2, ep2, t2, S2⟩, T.next hp ch⟩ fun s3 L3 mv3 S3 T3 => ?_⟩
    exact k s3 L3 (Moved.trans W.gtrans ((mv.mono more).then_heap (Nat.le_add_right _ _) fun b o hb e => (same.2 b fun z => hb (z ▸ List.mem_cons_self)).trans e) mv3) S3 T3
end
section
variable {K : Type} [DecidableEq K] {prog : Program} {w : World} {knd : KeyKind prog w K} {A : Around} {E : Value → Shared → Prop} {s : Shared} {ks : List (List K × Addr)}
theorem ts_new {h : Heap} {a : Addr} {led : Bool} (ho : h.get? a = some { cls := .type "set", dict := none, data := .set #[] 0 (.fresh 0 0 led) }) (hl : w.params.followText "set-order" = true ∨ led = true) : TsX knd h a [] := by
  refine ⟨_, #[], 0, _, ho, ⟨rfl, rfl, rfl⟩, rfl, rfl, ⟨List.Pairwise.nil, rfl, rfl, .inl rfl, (fun x hx => nomatch hx), (fun i h j z _ => nomatch z)⟩, List.nodup_nil, (fun p hp => nomatch hp), hl, (by show 0 * 5 < 7 * 3; decide)⟩
theorem set_tups {l : Addr} {items : Array Value} (q : Qt knd) {Q : Value → Shared → Prop} (hh : A.handled = none) (hl : s.heap.IsList l items) (hi : items.toList = ks.map fun p => Value.ref p.2) (hk : ∀ p ∈ ks, TI knd s.heap p.1 p.2) (few : ks.length ≤ 65) (hu : A.units + 4 < cLine)
    (h : ∀ (h' : Heap) (tk : Nat) L, TsX knd h' s.heap.objs.size L → Taken ks ks.length L →
      (∀ b o, s.heap.get? b = some o → h'.get? b = some o) → Q (.ref s.heap.objs.size) { s with heap := h', toks := tk }) :
    wpAny (model prog w) A (call (.type "set") [.ref l]) Q E s := by
  have hsz : items.size = ks.length := by rw [← Array.length_toList, hi, List.length_map]
  obtain ⟨c, tl, hmro⟩ := PySem.F.called_set.mro
  have f1 := PySem.F.called_set.made
  have f2 := PySem.F.called_set.sub
  have f3 := PySem.F.called_set.notType
  have f4 := PySem.F.called_set.canCreate
  have f5 := PySem.F.typeCall_set_1 (.ref l)
  refine wpAny_call (codeAny_of_tree ?_)
  show wpAny _ _ (callAny (.type "set") _) _ _ _
  refine wpAny_pure ⟨Code.quiet_builtin _ (by decide +kernel), codeAny_builtin PySem.F.entry_type_call ?_⟩
  rw [Around.under_plain (weight_type_call_type "set" [.ref l] []) rfl]
  repeat (any_goals (first | assumption | wp_step))
  refine codeAny_mono (code_set_led1 (x := .ref l) (E := E) (Q₁ := fun ob s₁ => ∃ led : Bool, led = (!w.params.followText "set-order") ∧ ob = .ref s.heap.objs.size ∧ s₁ = { s with heap := s.heap.push { cls := .type "set", dict := none, data := .set #[] 0 (.fresh 0 0 led) } }) ⟨_, rfl, rfl, rfl⟩) fun r s₁ hr => ?_
  cases r with
  | error e => exact hr
  | ok fl =>
    cases fl with
    | ret ob =>
      obtain ⟨led, hled, rfl, rfl⟩ := hr
      have e0 : (s.heap.push { cls := .type "set", dict := none, data := .set #[] 0 (.fresh 0 0 led) }).get? s.heap.objs.size = some { cls := .type "set", dict := none, data := .set #[] 0 (.fresh 0 0 led) } := Heap.get?_push_size _ rfl
      have hT : Shared.TypeIs { s with heap := s.heap.push { cls := .type "set", dict := none, data := .set #[] 0 (.fresh 0 0 led) } } (.ref s.heap.objs.size) "set" := ⟨_, e0, rfl⟩
      have g1 := PySem.F.called_set.init.lookup
      have g2 := PySem.F.called_set.init.bind (.ref s.heap.objs.size)
      repeat (any_goals (first | assumption | wp_step))
      refine codeAny_mono (codeAny_call_builtin (R := wants (fun r s₂ => r = .none ∧ ∃ h' tk L, s₂ = { s with heap := h', toks := tk } ∧ TsX knd h' s.heap.objs.size L ∧ Taken ks ks.length L ∧
          (∀ b o, s.heap.get? b = some o → h'.get? b = some o)) E) PySem.F.called_set.init.plain PySem.F.entry_set_init (check_set_init_1 hT ?_)) fun r₂ s₂ hr₂ => ?_
      · obtain ⟨⟨ocls, odict, odata, oslots⟩, hol, hcl, nl, hdl⟩ := hl
        simp only at hcl hdl
        subst hcl hdl
        have hol' : (s.heap.push { cls := .type "set", dict := none, data := .set #[] 0 (.fresh 0 0 led) }).get? l = some { cls := .type "list", dict := odict, data := .seq items nl, slots := oslots } := Heap.get?_push_of_some _ hol
        have j1 := PySem.F.sub_list_set
        have j2 := PySem.F.sub_list_frozenset
        have j3 : (Value.type "list" == Value.type "dict") = false := by decide
        have hl1 : (s.heap.push { cls := .type "set", dict := none, data := .set #[] 0 (.fresh 0 0 led) }).IsList l items := ⟨_, hol', rfl, nl, rfl⟩
        unfold Builtin.«set.__init__» noKeywords Builtin.Frozenset.updateFrom
        generalize hPI : pyIter = PI
        wp_walk
        subst hPI
        refine wpAny_pyIter_list hl1 (wpAny_bind (wpAny_runValue ?_))
        have lS : l < s.heap.objs.size := Heap.lt_size hol
        have sS : (s.heap.push { cls := .type "set", dict := none, data := .set #[] 0 (.fresh 0 0 led) }).objs.size = s.heap.objs.size + 1 := Heap.size_push ..
        have lI : l ≠ (s.heap.push { cls := .type "set", dict := none, data := .set #[] 0 (.fresh 0 0 led) }).objs.size := by rw [sS]; exact Nat.ne_of_lt (Nat.lt_succ_of_lt lS)
        have nf : s.heap.objs.size ∉ [(s.heap.push { cls := .type "set", dict := none, data := .set #[] 0 (.fresh 0 0 led) }).objs.size, l] := by
          rw [sS]
          simp only [List.mem_cons, List.not_mem_nil, or_false, not_or]
          exact ⟨Nat.ne_of_lt (Nat.lt_succ_self _), Nat.ne_of_gt lS⟩
        have hh3 : A.in1.in1.in1.handled = none := by simp [hh]
        have kw : ∀ p ∈ ks, p.2 < s.heap.objs.size := fun p hp => by
          obtain ⟨o, _, _, g, _⟩ := hk p hp
          exact Heap.lt_size g
        refine tups_loop (n := items.size) q ((Walks.list hh3 _ l lI items).toS) s.heap.objs.size nf hsz few (fun i v hv => ?_) (fun p hp z => ?_) (by show A.in1.in1.in1.units < cLine; show A.units + 1 + 1 + 1 < cLine; omega) (items.size - 0) 0 _ (by omega) (Nat.zero_le _)
          ⟨⟨_, Heap.get?_push_size _ rfl, rfl, rfl⟩, (hl1.push _)⟩ (fun p hp => (hk p hp).on fun o e => Heap.get?_push_of_some _ (Heap.get?_push_of_some _ e)) ?_ ?_
        · have e1 : items.toList[i]? = some v := by rw [Array.getElem?_toList]; exact hv
          rw [hi, List.getElem?_map] at e1
          cases e2 : ks[i]? with
          | none => rw [e2] at e1; cases e1
          | some p => rw [e2] at e1; exact ⟨p, rfl, (Option.some.inj e1).symm⟩
        · have := kw p hp
          have e := List.mem_singleton.mp z
          rw [sS] at e
          rw [e] at this
          exact absurd this (Nat.not_lt.mpr (Nat.le_succ _))
        · have e1 : ((s.heap.push { cls := .type "set", dict := none, data := .set #[] 0 (.fresh 0 0 led) }).push { cls := .type "list_iterator", data := .fields #[.ref l, .int 0 0] }).get? s.heap.objs.size
              = some { cls := .type "set", dict := none, data := .set #[] 0 (.fresh 0 0 led) } := Heap.get?_push_of_some _ e0
          refine ⟨[], ts_new e1 ?_, ⟨(fun p hp => nomatch hp), (fun p hp => absurd hp (by simp)), Nat.le_refl _⟩⟩
          rw [hled]
          cases w.params.followText "set-order"
          · exact .inr rfl
          · exact .inl rfl
        · intro s' L hm hS' hT
          obtain ⟨h', g', d', tk', os'⟩ := s'
          obtain rfl : g' = s.gens := hm.gens
          obtain rfl : d' = s.drawn := hm.drawn
          obtain rfl : os' = s.os := hm.os
          rw [hsz] at hT
          refine wpAny_pure (wpAny_pure ⟨rfl, h', tk', L, rfl, hS', hT, fun b o e => ?_⟩)
          have bS : b < s.heap.objs.size := Heap.lt_size e
          exact hm.heap b o (by rw [sS]; simp only [List.mem_cons, List.not_mem_nil, or_false, not_or]; exact ⟨Nat.ne_of_lt bS, Nat.ne_of_lt (Nat.lt_succ_of_lt bS)⟩) (Heap.get?_push_of_some _ (Heap.get?_push_of_some _ e))
      · cases r₂ with
        | error e => exact hr₂
        | ok fl₂ =>
          cases fl₂ with
          | ret r =>
            obtain ⟨rfl, h', tk, L, rfl, hS', hT, hk'⟩ := hr₂
            repeat (any_goals (first | assumption | wp_step))
            exact h _ _ _ hS' hT hk'
          | _ => exact hr₂.elim
    | _ => exact hr.elim
end
end DL
/-! ### rows of texts in their order -/
namespace DL
open PySem PySem.Spec PyProof.Rows L2 PySem.W
abbrev TX := List Str
def txD (r : TX) : D := .tup (r.map .str)
def txP (r : TX) : PyData := .tuple (r.map .str)
def leS (a b : TX) : Bool := !dataLt (txP b) (txP a)
theorem toks_txt : ∀ {a b : TX}, keyToksAll (a.map .str) = keyToksAll (b.map .str) → a = b
  | [], [], _ => rfl
  | [], y :: b, h => by
    simp only [List.map_cons, List.map_nil, keyToksAll] at h
    cases h
  | x :: a, [], h => by
    simp only [List.map_cons, List.map_nil, keyToksAll] at h
    cases h
  | x :: a, y :: b, h => by
    simp only [List.map_cons, keyToksAll, keyToks, List.cons_append, List.nil_append, List.cons.injEq, Sum.inr.injEq, true_and] at h
    obtain ⟨h1, h2⟩ := h
    rw [str_of_cps h1, toks_txt h2]
theorem leS_anti {a b : TX} (h1 : leS a b = true) (h2 : leS b a = true) : a = b := by
  unfold leS txP at h1 h2
  rw [dataLt_tuple, Bool.not_eq_true'] at h1 h2
  exact toks_txt (lex_total _ _ h2 h1)
theorem leS_trans (a b c : TX) (h1 : leS a b = true) (h2 : leS b c = true) : leS a c = true := by
  unfold leS txP at *
  rw [dataLt_tuple, Bool.not_eq_true'] at *
  cases h : lexLt itemOrd (keyToksAll (c.map .str)) (keyToksAll (a.map .str)) with
  | false => rfl
  | true =>
    rcases lex_negTrans _ (keyToksAll (b.map .str)) _ h with z | z
    · rw [h2] at z; cases z
    · rw [h1] at z; cases z
theorem leS_total (a b : TX) : (leS a b || leS b a) = true := by
  cases h : leS a b with
  | true => rfl
  | false =>
    unfold leS txP at *
    rw [dataLt_tuple] at *
    rw [Bool.not_eq_false'] at h
    rw [Bool.false_or, Bool.not_eq_true']
    cases z : lexLt itemOrd (keyToksAll (a.map .str)) (keyToksAll (b.map .str)) with
    | false => rfl
    | true =>
      have := lex_trans _ _ _ h z
      rw [lex_irrefl] at this
      cases this
theorem sorted_one : ∀ {l m : List TX}, l.Perm m → l.Pairwise (fun a b => leS a b = true) → m.Pairwise (fun a b => leS a b = true) → l = m
  | [], m, h, _, _ => h.nil_eq
  | x :: r, [], h, _, _ => absurd h.symm.nil_eq (by simp)
  | x :: r, y :: q, h, h1, h2 => by
    obtain ⟨a1, a2⟩ := List.pairwise_cons.mp h1
    obtain ⟨b1, b2⟩ := List.pairwise_cons.mp h2
    have e : x = y := by
      rcases List.mem_cons.mp (h.mem_iff.mp List.mem_cons_self) with e | hx
      · exact e
      · rcases List.mem_cons.mp (h.mem_iff.mpr List.mem_cons_self) with e | hy
        · exact e.symm
        · exact leS_anti (a1 y hy) (b1 x hx)
    subst e
    rw [sorted_one (List.Perm.cons_inv h) a2 b2]
theorem sorted_is (l : List TX) : (l.mergeSort leS).Pairwise (fun a b => leS a b = true) := List.pairwise_mergeSort (le := leS) leS_trans leS_total l
theorem sort_perm {l m : List TX} (h : l.Perm m) : l.mergeSort leS = m.mergeSort leS :=
  sorted_one (((List.mergeSort_perm l leS).trans h).trans (List.mergeSort_perm m leS).symm) (sorted_is l) (sorted_is m)
/-- each once -/
def once : List TX → List TX
  | [] => []
  | r :: l => if r ∈ once l then once l else r :: once l
theorem mem_once {r : TX} : ∀ {l : List TX}, r ∈ once l ↔ r ∈ l
  | [] => Iff.rfl
  | x :: l => by
    unfold once
    split
    · rename_i h
      rw [mem_once, List.mem_cons]
      constructor
      · exact .inr
      · rintro (rfl | z)
        · exact mem_once.mp h
        · exact z
    · rw [List.mem_cons, List.mem_cons, mem_once]
theorem once_nd : ∀ l : List TX, (once l).Nodup
  | [] => List.nodup_nil
  | x :: l => by
    unfold once
    split
    · exact once_nd l
    · rename_i h
      exact List.nodup_cons.mpr ⟨h, once_nd l⟩
theorem perm_of_nd : ∀ {l m : List TX}, l.Nodup → m.Nodup → (∀ x, x ∈ l ↔ x ∈ m) → l.Perm m
  | [], m, _, _, h => by
    cases m with
    | nil => exact List.Perm.refl _
    | cons y q => exact absurd ((h y).mpr List.mem_cons_self) (by simp)
  | x :: r, m, h1, h2, h => by
    obtain ⟨n1, n2⟩ := List.nodup_cons.mp h1
    refine (List.Perm.cons x (perm_of_nd n2 (h2.erase x) fun y => ?_)).trans (List.perm_cons_erase ((h x).mp List.mem_cons_self)).symm
    rw [List.Nodup.mem_erase_iff h2]
    constructor
    · intro hy
      exact ⟨fun e => n1 (e ▸ hy), (h y).mp (List.mem_cons_of_mem _ hy)⟩
    · rintro ⟨ne, hy⟩
      exact (List.mem_cons.mp ((h y).mpr hy)).elim (fun e => absurd e ne) id
/-- what sorted(set(l)) gives -/
def sortU (l : List TX) : List TX := (once l).mergeSort leS
theorem sortU_of {l m : List TX} (hn : l.Nodup) (h : ∀ x, x ∈ l ↔ x ∈ m) : l.mergeSort leS = sortU m := sort_perm (perm_of_nd hn (once_nd m) fun x => (h x).trans mem_once.symm)
theorem mem_sortU {l : List TX} {r : TX} : r ∈ sortU l ↔ r ∈ l := (List.mergeSort_perm _ _).mem_iff.trans mem_once
end DL
namespace DL
open PySem PySem.Spec PyProof.Rows L2
/-! ### sorted(set(x)), x a tuple of some of four texts -/
def FOUR : List Str := ["*", "+", "-", "neg"]
def F4 (i : Fin 4) : Str := FOUR[i.val]'(by have := i.isLt; show i.val < 4; omega)
/-- those of the four that stand in ts, in their order -/
def in4 (ts : List Str) : List (Fin 4) := [0, 1, 2, 3].filter fun i => decide (F4 i ∈ ts)
end DL
namespace DL
open PySem PySem.Spec PyProof.Rows L2
/-! ### sorted(set(x)): the walk -/
def Is4 (v : Value) (i : Fin 4) : Prop := ∃ t, v = Value.str (F4 i) t
section
open PySem.W PySem.Calls
variable {P : Program} {w : World} {A : Around} {E : Value → Shared → Prop} {s : Shared} {a : Addr} {L : List Str}
end
/-- a set of texts at a, to be walked -/
def SetWO (w : World) (a : Addr) (L : List Str) : HO := .ext fun h => SetW w h a L
def adjL (ts : List Str) : List Str := adjs (fun i => ts.getD i Str.empty) ts.length
def rSetW (K : PySem.W.Frag) (w : World) : List V → Hp → VK → Prop := fun xs H Q => ∃ (l : Addr) (ts : List Str), xs = [V.ref l] ∧ SqT K H l (ts.map V.str) ∧ ts.length ≤ 1000 ∧ ∀ p, H p = none → Q (.ref p) (upd H p (SetWO w p (adjL ts)))
def rSortW (w : World) : List V → Hp → VK → Prop := fun xs H Q => ∃ (a : Addr) (L : List Str), xs = [V.ref a] ∧ H a = some (SetWO w a L) ∧ L.length ≤ 1000 ∧ (∀ x ∈ L, x ∈ FOUR) ∧ L.Nodup ∧ ∀ p ob, H p = none → Q (.ref p) (upd H p (.frz ob (.lst ((in4 L).map fun i => V.str (F4 i)))))
section
variable {X : Cx}
end
def sset4 (xs : List D) : M D := fun S => match xs with
  | [d] => (match tupA d with
    | some l => (match txts l with
      | some ts => if ts.length ≤ 1000 ∧ (∀ x ∈ ts, x ∈ FOUR) then .ok (.lst ((in4 ts).map fun i => .str (F4 i))) S else .bad
      | none => .bad)
    | none => .bad)
  | _ => .bad
section
variable {X : Cx} {W : WE} {e : Expr} {fs : List (Frame → M D)} {p p1 p2 q : Pos}
end
end DL
/-! ### sorted(set(l)), l a list of rows of texts -/
namespace DL
open PySem PySem.Spec PyProof.Rows L2
section
variable {P : Program} {w : World}
theorem is_text {k : Str} {v : Value} (h : (PySem.strKind P w).is k v = true) : ∃ t, v = Value.str k t := Value.isStrOf_shape h
theorem qt_str : Qt (strKind P w) := by
  refine ⟨fun k v h n => ?_, fun k v h n => ?_⟩
  · obtain ⟨t, rfl⟩ := is_text h
    cases n <;> rfl
  · obtain ⟨t, rfl⟩ := is_text h
    exact ⟨false, by cases n <;> rfl⟩
theorem items_strs : ∀ {ts : List Str} {us : List Value}, StrsAre us ts → PySem.ItemsAre (strKind P w) ts us
  | _, _, .nil => .nil
  | _, _, .cons t k r => .cons (strKind_is P w t k) (items_strs r)
/-- the set at a, its entries being the tuples of L -/
def SetT (P : Program) (w : World) (h : Heap) (a : Addr) (L : List (TX × Addr)) : Prop :=
  ∃ o es ep t, h.get? a = some o ∧ o.ExactSet ∧ o.data = .set es ep t ∧ es.toList = L.map (ent (strKind P w)) ∧ es.size < scanBound ∧ t.fits es.size = true ∧ Ris t.place.toList ∧ (w.params.followText "set-order" = true ∨ t.led = true)
def SetTO (P : Program) (w : World) (a : Addr) (L : List (TX × Addr)) : HO := .ext fun h => SetT P w h a L
theorem setTO_new {H : Hp} {h : Heap} {a : Addr} {L : List (TX × Addr)} (R : SetT P w h a L) : ObjOk P w H h a (SetTO P w a L) := by
  have ⟨o, es, ep, t, ho, r⟩ := R
  exact ⟨R, ⟨o, ho⟩, fun h1 h2 p k => by
    obtain ⟨o, es, ep, t, ho, r⟩ := p
    exact ⟨o, es, ep, t, k o ho, r⟩⟩
theorem setT_of {h : Heap} {a : Addr} {L : List (TX × Addr)} (R : TsX (P := P) (w := w) (strKind P w) h a L) (few : L.length ≤ 65) : SetT P w h a L ∧ (L.map (·.1)).Nodup := by
  obtain ⟨o, es, ep, t, S⟩ := R
  have z : es.size = L.length := by rw [← Array.length_toList, S.rows, List.length_map]
  refine ⟨⟨o, es, ep, t, S.at_, S.ex, S.dat, S.rows, by rw [z]; unfold scanBound; omega, ?_, S.tab.ris, S.led⟩, S.uniq⟩
  have z2 := S.tab.sz
  rw [List.length_map] at z2
  have := S.room
  unfold SetTable.fits SetTable.fill
  simp only [S.tab.dm, z, Bool.and_eq_true, beq_iff_eq, decide_eq_true_eq]
  exact ⟨z2, by show t.place.size + 0 ≤ t.mask; omega⟩
end
section
variable {X : Cx}
/-- the tuples of ks at their addresses -/
def RowsAt (K : PySem.W.Frag) (H : Hp) (ks : List (TX × Addr)) : Prop := ∀ p ∈ ks, SqT K H p.2 (p.1.map V.str)
theorem tkey_of {pins : List (Addr × Obj)} {σ : L2.St} {H : Hp} {s : Shared} (I : Inv X pins σ H s) {r : TX} {a : Addr} (h : SqT X.K H a (r.map V.str)) : TI (strKind X.prog X.w) s.heap r a := by
  obtain ⟨its, rv, pl, _⟩ := I.tuple h
  obtain ⟨o, ho, hc, n, hd⟩ := (show s.heap.IsTuple a its.toArray from pl)
  exact ⟨o, its.toArray, n, ho, hc, hd, items_strs (by simpa using vals_texts rv)⟩
theorem vals_refs : ∀ {ks : List (TX × Addr)} {us : List Value}, Vals (ks.map fun p => V.ref p.2) us → us = ks.map fun p => Value.ref p.2
  | [], _, h => by cases h; rfl
  | p :: ks, _, h => by
    cases h with
    | cons r hs =>
      obtain rfl : _ = Value.ref p.2 := r
      rw [vals_refs hs]
      rfl
def rSetT (K : PySem.W.Frag) (P : Program) (w : World) : List V → Hp → VK → Prop := fun xs H Q => ∃ (l : Addr) (ks : List (TX × Addr)), xs = [V.ref l] ∧ SqL K H l (ks.map fun p => V.ref p.2) ∧ RowsAt K H ks ∧ ks.length ≤ 65 ∧ ∀ p L, H p = none → Taken ks ks.length L → (L.map (·.1)).Nodup → Q (.ref p) (upd H p (SetTO P w p L))
theorem cr_setT (hc : X.calm = true) (hu : X.A.units + 64 < cLine) : CallR X (.type "set") (rSetT X.K X.prog X.w) := by
  intro pins s σ H xs us Q I r h
  obtain ⟨l, ks, rfl, hl, hk, hz, q⟩ := h
  rw [Vals.ref1 r]
  obtain ⟨its, rv, pl, _⟩ := I.list hl
  refine set_tups (knd := strKind X.prog X.w) (items := its.toArray) (ks := ks) qt_str (I.ok.hd hc) (show s.heap.IsList l its.toArray from pl.isList) (by simpa using vals_refs rv) (fun p hp => tkey_of I (hk p hp)) hz (by omega) fun h' tk L R T k => ?_
  obtain ⟨R1, nd⟩ := setT_of R (Nat.le_trans T.len hz)
  exact ⟨.ref s.heap.objs.size, _, I.laid (t' := tk) k (Nat.le_refl _) (setTO_new R1), rfl, q _ _ (I.hok.fresh (Nat.le_refl _)) T nd⟩
theorem txP_alike (a b : TX) : PySem.W.alike (txP a) (txP b) = true := by
  unfold txP
  rw [PySem.W.alike]
  exact go a b
where go : ∀ a b : TX, PySem.W.alikeAll (a.map .str) (b.map .str) = true
  | [], b => by simp [PySem.W.alikeAll]
  | _ :: _, [] => by simp [PySem.W.alikeAll]
  | x :: a, y :: b => by simp [PySem.W.alikeAll, PySem.W.alike, go a b]
theorem txP_deep (a : TX) : (txP a).depth ≤ 1 := by
  unfold txP
  have : PyData.depthAll (a.map .str) = 0 := by
    induction a with
    | nil => simp [PyData.depthAll]
    | cons x a ih => simp [PyData.depthAll, PyData.depth, ih]
  simp only [PyData.depth, this]
  omega
def Isp (v : Value) (p : TX × Addr) : Prop := v = Value.ref p.2
def encP (p : TX × Addr) : PyData := txP p.1
theorem each_of : ∀ ks : List (TX × Addr), PySem.W.EachIs Isp (ks.map fun p => Value.ref p.2) ks
  | [] => .nil
  | p :: ks => .cons rfl (each_of ks)
theorem each_vals : ∀ {vs : List Value} {ks : List (TX × Addr)}, PySem.W.EachIs Isp vs ks → Vals (ks.map fun p => V.ref p.2) vs
  | _, _, .nil => .nil
  | _, _, .cons h r => .cons h (each_vals r)
theorem each_read {h : Heap} : ∀ {vs : List Value} {ks : List (TX × Addr)}, PySem.W.EachIs Isp vs ks → (∀ p ∈ ks, ∃ as, Reads h (.ref p.2) (encP p) as) → PySem.W.EachIs (fun v b => ∃ as, Reads h v (encP b) as) vs ks
  | _, _, .nil, _ => .nil
  | _, _, .cons e r, q => .cons (by rw [show _ = Value.ref _ from e]; exact q _ List.mem_cons_self) (each_read r fun p hp => q p (List.mem_cons_of_mem _ hp))
def rSortP (K : PySem.W.Frag) (P : Program) (w : World) : List V → Hp → VK → Prop := fun xs H Q => ∃ (a : Addr) (L : List (TX × Addr)), xs = [V.ref a] ∧ H a = some (SetTO P w a L) ∧ RowsAt K H L ∧ L.length ≤ 65 ∧ (∀ p ∈ L, p.1 ≠ []) ∧
  ∀ p ob (M : List (TX × Addr)), H p = none → (∀ x ∈ M, x ∈ L) → M.map (·.1) = (L.map (·.1)).mergeSort leS → Q (.ref p) (upd H p (.frz ob (.lst (M.map fun x => V.ref x.2))))
theorem sort_order {bs L : List (TX × Addr)} (pm : bs.Perm L) : (bs.mergeSort (PySem.W.dataLe false encP)).map (·.1) = (L.map (·.1)).mergeSort leS := by
  rw [List.map_mergeSort (r := PySem.W.dataLe false encP) (s := leS) (f := fun b : TX × Addr => b.1) (fun a _ b _ => rfl)]
  exact sort_perm (pm.map _)
theorem perm_pull {L : List (TX × Addr)} : ∀ {vs : List Value}, vs.Perm (L.map fun p => Value.ref p.2) → ∃ bs : List (TX × Addr), bs.Perm L ∧ vs = bs.map fun p => Value.ref p.2 := by
  intro vs h
  have key : ∀ {us ws : List Value}, us.Perm ws → ∀ L : List (TX × Addr), ws = L.map (fun p => Value.ref p.2) → ∃ bs : List (TX × Addr), bs.Perm L ∧ us = bs.map fun p => Value.ref p.2 := by
    intro us ws h
    induction h with
    | nil =>
      intro L e
      cases L with
      | nil => exact ⟨[], List.Perm.nil, rfl⟩
      | cons p L => cases e
    | cons x _ ih =>
      intro L e
      cases L with
      | nil => cases e
      | cons p L =>
        rw [List.map_cons, List.cons.injEq] at e
        obtain ⟨bs, h1, h2⟩ := ih L e.2
        exact ⟨p :: bs, h1.cons p, by rw [e.1, h2, List.map_cons]⟩
    | swap x y l =>
      intro L e
      match L, e with
      | p :: q :: L, e =>
        simp only [List.map_cons, List.cons.injEq] at e
        exact ⟨q :: p :: L, .swap _ _ _, by rw [e.1, e.2.1, e.2.2]; rfl⟩
    | trans _ _ ih1 ih2 =>
      intro L e
      obtain ⟨bs, h1, h2⟩ := ih2 L e
      obtain ⟨cs, h3, h4⟩ := ih1 bs h2
      exact ⟨cs, h3.trans h1, h4⟩
  exact key h L rfl
end
section
open PySem.W PySem.Calls
variable {P : Program} {w : World} {A : Around} {E : Value → Shared → Prop} {s : Shared} {a : Addr} {L : List (TX × Addr)}
theorem sort_setT {Q : Value → Shared → Prop} (R : SetT P w s.heap a L) (few : L.length ≤ 65) (hr : ∀ p ∈ L, ∃ as, Reads s.heap (.ref p.2) (encP p) as) (hne : ∀ p ∈ L, p.1 ≠ []) (hh : A.handled = none) (hu : A.units + 10 < cLine)
    (hQ : ∀ s' p (bs : List (TX × Addr)) (c : Nat) (out : List Value), (∀ b o, s.heap.get? b = some o → s'.heap.get? b = some o) → s'.gens = s.gens → s'.os = s.os → s.heap.objs.size ≤ p → s'.heap.get? p = some (seqObj "list" (List.toArray out) c) → bs.Perm L → Vals ((bs.mergeSort (PySem.W.dataLe false encP)).map fun x => V.ref x.2) out → Q (.ref p) s') :
    wpAny (model P w) A (call (.builtin "sorted") [.ref a]) Q E s := by
  obtain ⟨o, es, ep, t, ho, hex, hd, rows, hb, hf, hri, hl⟩ := R
  refine call_function_entry kind_sorted plain_sorted entry_sorted (args_sorted1 _) ?_
  unfold Builtin.«sorted»
  refine wpAny_bind (m := checkCount "sorted" 1 1 _) (wpAny_pure ?_)
  refine wpAny_bind (collect_set (A := A.in1) hh ⟨o, ho, hex.1, hd⟩ hf hb hri hl fun s1 vs k1 hz g1 o1 pm => ?_)
  have pm2 : vs.Perm (L.map fun p => Value.ref p.2) := by
    refine pm.trans ?_
    rw [rows, List.map_map]
    exact List.Perm.refl _
  obtain ⟨bs, pb, rfl⟩ := perm_pull pm2
  have lb : bs.length = L.length := pb.length_eq
  have eb := each_of bs
  have rd : ∀ p ∈ bs, ∃ as, Reads s1.heap (.ref p.2) (encP p) as := fun p hp => by
    obtain ⟨as, r⟩ := hr p (pb.mem_iff.mp hp)
    exact ⟨as, PyProof.Rows.Reads.keeps k1 r⟩
  have hlen : (bs.map fun p => Value.ref p.2).length = bs.length := by rw [List.length_map]
  refine wpAny_bind (wpAny_newList ?_ (by rw [hlen, lb, sizeLine_eq]; omega))
  refine wpAny_bind (wpAny_holding (wpAny_mono (sort_new (A := A.in1) (s := { s1 with heap := s1.heap.push (seqObj "list" (bs.map fun p => Value.ref p.2).toArray 0) }) (h0 := s1.heap) (a := s1.heap.objs.size) (Q := fun _ s' => Q (.ref s1.heap.objs.size) s') (enc := encP) (R := Isp) (Heap.get?_push_size _ rfl) (fun b o q => ⟨Nat.ne_of_lt (Heap.lt_size q), Heap.get?_push_of_some _ q⟩) eb (each_read eb rd)
    (fun d hd d' hd' => ?_) (.inl fun d hd => ?_) (by rw [lb, sizeLine_eq]; omega) (fun b hb => by have := txP_deep b.1; show A.units + 1 + 1 + (txP b.1).depth < cLine; omega) fun out ol eo => ?_) (fun _ s' x => ?_) fun _ _ e => e))
  · obtain ⟨i, _, rfl⟩ := List.mem_map.mp hd
    obtain ⟨j, _, rfl⟩ := List.mem_map.mp hd'
    exact txP_alike _ _
  · obtain ⟨i, hi, rfl⟩ := List.mem_map.mp hd
    have := hne i (pb.mem_iff.mp hi)
    obtain ⟨r, b⟩ := i
    cases r with
    | nil => exact absurd rfl this
    | cons x r => exact ⟨_, _, rfl⟩
  · obtain ⟨c, hcc⟩ := sortedHeap_at (h := s1.heap.push (seqObj "list" (bs.map fun p => Value.ref p.2).toArray 0)) (a := s1.heap.objs.size) (vs := bs.map fun p => Value.ref p.2) (n := 0) (out := List.toArray out) (Heap.get?_push_size _ rfl)
    refine hQ _ s1.heap.objs.size bs c out (fun b u q => ?_) g1 o1 hz hcc pb (each_vals eo)
    have q2 := k1 b u q
    have hlt := Heap.lt_size q2
    show (sortedHeap (s1.heap.push (seqObj "list" (bs.map fun p => Value.ref p.2).toArray 0)) s1.heap.objs.size (bs.map fun p => Value.ref p.2) (List.toArray out)).get? b = some u
    rw [sortedHeap_old (Nat.ne_of_lt hlt) (by rw [Heap.size_push]; exact Nat.lt_succ_of_lt hlt)]
    exact Heap.get?_push_of_some _ q2
  · exact wpAny_pure ⟨_, rfl, x⟩
end
section
variable {X : Cx}
theorem reads_row {pins : List (Addr × Obj)} {σ : L2.St} {H : Hp} {s : Shared} (I : Inv X pins σ H s) {p : TX × Addr} (h : SqT X.K H p.2 (p.1.map V.str)) : ∃ as, Reads s.heap (.ref p.2) (encP p) as := by
  have rs : Rps X.K [] H (p.1.map D.str) (p.1.map V.str) := by
    generalize p.1 = r
    induction r with
    | nil => rfl
    | cons x r ih => exact ⟨_, _, rfl, rfl, ih⟩
  have ps : pys [D.ctu (p.1.map D.str)] = some [txP p.1] := by
    have : ∀ r : TX, pys (r.map D.str) = some (r.map PyData.str) := fun r => by
      induction r with
      | nil => rfl
      | cons x r ih => simp only [List.map_cons, pys, py, ih]
    simp only [pys, py, this, Option.map_some, txP]
  obtain ⟨as, rd⟩ := pys_reads I (ι := []) [D.ctu (p.1.map D.str)] [V.ref p.2] [Value.ref p.2] _ ⟨_, _, rfl, ⟨p.2, _, rfl, h, rs⟩, rfl⟩ (.cons rfl .nil) ps
  cases rd with
  | cons r _ => exact ⟨_, r⟩
theorem cr_sortP (hc : X.calm = true) (hu : X.A.units + 64 < cLine) : CallR X (.builtin "sorted") (rSortP X.K X.prog X.w) := by
  intro pins s σ H xs us Q I r h
  obtain ⟨a, L, rfl, ha, hk, few, hne, q⟩ := h
  have R : SetT X.prog X.w s.heap a L := (I.hok a _ ha).1
  rw [Vals.ref1 r]
  refine sort_setT R few (fun p hp => reads_row I (hk p hp)) hne (I.ok.hd hc) (by omega) fun s' p bs c out k g o hp hg pb hv => ?_
  have hn : H p = none := I.hok.fresh hp
  have hl : ((bs.mergeSort (PySem.W.dataLe false encP)).map fun x => V.ref x.2).length ≤ sizeLine := by
    rw [List.length_map, List.length_mergeSort, pb.length_eq, sizeLine_eq]
    omega
  have J : Inv X pins σ (upd H p (.frz { cls := .type "list", data := .seq (List.toArray out) c } (.lst ((bs.mergeSort (PySem.W.dataLe false encP)).map fun x => V.ref x.2)))) { s with heap := s'.heap, gens := s'.gens, drawn := s'.drawn, toks := s'.toks } :=
    I.call (ch := []) (Un.laid k hp hn) (I.hok.laid k hp ⟨hg, hl, out, c, hv, hg⟩) (by rw [g]; exact I.bare) (fun _ z => nomatch z)
  have e : s' = { s with heap := s'.heap, gens := s'.gens, drawn := s'.drawn, toks := s'.toks } := by
    cases s'
    cases s
    cases o
    rfl
  rw [e]
  exact ⟨.ref p, _, J, rfl, q p _ _ hn (fun x hx => pb.mem_iff.mp (List.mem_mergeSort.mp hx)) (sort_order pb)⟩
end
/-! the mirror -/
def txRow : D → Option TX
  | .tup l => txts l
  | _ => none
def txRows : List D → Option (List TX)
  | [] => some []
  | d :: r => match txRow d, txRows r with
    | some x, some y => some (x :: y)
    | _, _ => none
def ssetT (xs : List D) : M D := fun S => match oneL S xs with
  | some l => (match txRows l with
    | some rs => if rs.length ≤ 65 ∧ (∀ x ∈ rs, x ≠ []) then .ok (.lst ((sortU rs).map txD)) S else .bad
    | none => .bad)
  | none => .bad
theorem txts_map : ∀ {l : List D} {ts : List Str}, txts l = some ts → l = ts.map .str
  | [], ts, e => by cases e; rfl
  | d :: l, ts, e => by
    cases d with
    | str s =>
      unfold txts at e
      cases h : txts l with
      | none => rw [h] at e; cases e
      | some u =>
        rw [h] at e
        cases e
        rw [txts_map h]
        rfl
    | _ => cases e
theorem trows_at {K : PySem.W.Frag} {ι : List Addr} {H : Hp} : ∀ {l : List D} {rs : List TX} {vs : List V}, txRows l = some rs → Rps K ι H l vs → ∃ ks : List (TX × Addr), vs = ks.map (fun p => V.ref p.2) ∧ ks.map (·.1) = rs ∧ ∀ p ∈ ks, Rp K ι H (txD p.1) (.ref p.2)
  | [], rs, vs, e, r => by cases e; cases r; exact ⟨[], rfl, rfl, fun p hp => nomatch hp⟩
  | d :: l, rs, vs, e, r => by
    obtain ⟨v, w, rfl, r1, r2⟩ := r
    unfold txRows at e
    cases h1 : txRow d with
    | none => rw [h1] at e; cases e
    | some x =>
      cases h2 : txRows l with
      | none => rw [h1, h2] at e; cases e
      | some y =>
        rw [h1, h2] at e
        cases e
        obtain ⟨ks, rfl, rfl, hk⟩ := trows_at h2 r2
        unfold txRow at h1
        split at h1
        · rename_i l0
          have := txts_map h1
          subst this
          have r1' := r1
          obtain ⟨a, us, rfl, _⟩ := r1
          exact ⟨(x, a) :: ks, rfl, rfl, fun p hp => (List.mem_cons.mp hp).elim (fun e => by subst e; exact r1') (hk p)⟩
        · cases h1
theorem rps_strsT {K : PySem.W.Frag} {ι : List Addr} {H : Hp} : ∀ {r : TX} {vs : List V}, Rps K ι H (r.map .str) vs → vs = r.map V.str
  | [], _, h => by cases h; rfl
  | x :: r, _, h => by
    obtain ⟨v, w, rfl, r1, r2⟩ := h
    rw [rps_strsT r2]
    cases r1
    rfl
theorem sqt_row {K : PySem.W.Frag} {ι : List Addr} {H : Hp} {r : TX} {a : Addr} (h : Rp K ι H (txD r) (.ref a)) : SqT K H a (r.map V.str) := by
  obtain ⟨b, vs, e, hH, rs⟩ := h
  cases e
  have := rps_strsT rs
  subst this
  exact .inl (.inl hH)
theorem rps_rows {K : PySem.W.Frag} {ι : List Addr} {H : Hp} : ∀ {M : List (TX × Addr)}, (∀ p ∈ M, Rp K ι H (txD p.1) (.ref p.2)) → Rps K ι H ((M.map (·.1)).map txD) (M.map fun x => V.ref x.2)
  | [], _ => rfl
  | p :: M, h => ⟨_, _, rfl, h p List.mem_cons_self, rps_rows fun p hp => h p (List.mem_cons_of_mem _ hp)⟩
section
variable {X : Cx} {W : WE} {e : Expr} {fs : List (Frame → M D)} {p p1 p2 q : Pos}
theorem DE_ssetT (hc : X.calm = true) (hu : X.A.units + 64 < cLine) (g1 : Gl X "sorted") (m1 : X.mg "sorted" = none) (g2 : Gl X "set") (m2 : X.mg "set" = none) (ha : DA X W (seqA fs) [e])
    (h1 : starEach [e] X.env = (false, eval e X.env) :: starEach [] X.env := by rfl)
    (h2 : starEach [.Call (.Name "set" p2) [e] [] q] X.env = (false, eval (.Call (.Name "set" p2) [e] [] q) X.env) :: starEach [] X.env := by rfl)
    (hp1 : (backTo q (starEach [] X.env)).any (·.1) = false := by rfl) (hp2 : (backTo p (starEach [] X.env)).any (·.1) = false := by rfl) :
    DE X W (calF ssetT fs) (.Call (.Name "sorted" p1) [.Call (.Name "set" p2) [e] [] q] [] p) := by
  refine DE.of (pe_callB (cr_sortP hc hu) g1 m1 rfl (pa_cons (pe_callTy (cr_setT hc hu) g2 m2 rfl ha (he := h1) (hpl := hp1)) pa_nil h2) (he := h2) (hpl := hp2)) fun σ H Q ι fr S s f h => ?_
  refine ⟨ι, fr, S, s, f, h.bnd.imp (fun xs S1 ι1 H1 m1 s1 q1 vs r1 => ?_) fun _ _ _ _ _ _ z => z⟩
  unfold ssetT at q1
  split at q1
  case h_2 => exact q1.bad
  case h_1 l hl =>
  split at q1
  case h_2 => exact q1.bad
  case h_1 rs hr =>
  split at q1
  case isFalse => exact q1.bad
  case isTrue hz =>
  obtain ⟨a, ws, rfl, hq, rw_⟩ := one_at s1 r1 hl
  obtain ⟨ks, rfl, rfl, hk⟩ := trows_at hr rw_
  have hlen : ks.length ≤ 65 := by have := hz.1; rwa [List.length_map] at this
  refine ⟨a, ks, rfl, hq, fun p hp => sqt_row (hk p hp), hlen, fun pp L hpn T nd => ?_⟩
  have hsub : ∀ p ∈ L, p ∈ ks := fun p hp => List.mem_of_mem_take (T.sub p hp)
  have m2 : Mn ι1 H1 ι1 (upd H1 pp (SetTO X.prog X.w pp L)) := Mn.fresh hpn
  refine ⟨pp, L, rfl, upd_same, fun p hp => sqt_row (m2.rp (hk p (hsub p hp))), Nat.le_trans T.len hlen, fun p hp => hz.2 p.1 (List.mem_map.mpr ⟨p, hsub p hp, rfl⟩), fun p2 ob M hp2 hM eM => ?_⟩
  have m3 : Mn ι1 (upd H1 pp (SetTO X.prog X.w pp L)) ι1 (upd (upd H1 pp (SetTO X.prog X.w pp L)) p2 (.frz ob (.lst (M.map fun x => V.ref x.2)))) := Mn.fresh hp2
  have same : (L.map (·.1)).mergeSort leS = sortU (ks.map (·.1)) := by
    refine sortU_of nd fun x => ?_
    constructor
    · intro hx
      obtain ⟨p, hp, rfl⟩ := List.mem_map.mp hx
      exact List.mem_map.mpr ⟨p, hsub p hp, rfl⟩
    · intro hx
      obtain ⟨p, hp, rfl⟩ := List.mem_map.mp hx
      exact T.all p (by rw [List.take_length]; exact hp)
  rw [same] at eM
  refine .inl (((q1.from m2).from m3).ok ((s1.fresh hpn).fresh hp2) _ ⟨p2, _, rfl, .inl ⟨_, upd_same⟩, ?_⟩)
  rw [← eM]
  exact rps_rows fun p hp => m3.rp (m2.rp (hk p (hsub p (hM p hp))))
theorem CxD.ssetT {N : List Str} {sc : Scope} {bb : Option Scope} {k : Nat} (c : CxD X N sc bb k) (hu : X.A.units + 64 < cLine) (n1 : NG sc "sorted") (m1 : X.mg "sorted" = none) (n2 : NG sc "set") (m2 : X.mg "set" = none) (ha : DA X W (seqA fs) [e])
    (h1 : starEach [e] X.env = (false, eval e X.env) :: starEach [] X.env := by rfl)
    (h2 : starEach [.Call (.Name "set" p2) [e] [] q] X.env = (false, eval (.Call (.Name "set" p2) [e] [] q) X.env) :: starEach [] X.env := by rfl)
    (hp1 : (backTo q (starEach [] X.env)).any (·.1) = false := by rfl) (hp2 : (backTo p (starEach [] X.env)).any (·.1) = false := by rfl) :
    DE X W (calF DL.ssetT fs) (.Call (.Name "sorted" p1) [.Call (.Name "set" p2) [e] [] q] [] p) :=
  DE_ssetT c.calm hu (c.gl n1) m1 (c.gl n2) m2 ha h1 h2 hp1 hp2
end
end DL
namespace K47
open PySem PySem.Spec PyProof.Rows L2 DL
def top (i : Nat) : Stmt := PySem.Challenge.pw_levelkeys_k47_rows_operand_by_operand.main.body.getD i (.Pass ⟨0, 0, 0, 0⟩)
structure Gs (K : PySem.W.Frag) (mg : Str → Option Value) : Prop where
  b_abs : mg "abs" = none
  b_int : mg "int" = none
  b_isinstance : mg "isinstance" = none
  b_len : mg "len" = none
  b_max : mg "max" = none
  b_range : mg "range" = none
  b_repr : mg "repr" = none
  b_set : mg "set" = none
  b_sorted : mg "sorted" = none
  b_str : mg "str" = none
  b_tuple : mg "tuple" = none
  c_DIGITS : ∃ t, mg "DIGITS" = some (.str "0123456789" t)
/-! ### x_deck -/
abbrev s_x_deck : Stmt := top 7
def N_x_deck : List Str := ["_law_script", "_law_cell"]
abbrev sc_x_deck : Scope := defScope s_x_deck
def usc_x_deck_1 : Scope := ⟨.function, [(".0", .local), ("_law_cell", .local), ("abs", .globalImplicit)], false, false, []⟩
abbrev sc_x_deck_1 : Scope := relS usc_x_deck_1 sc_x_deck
theorem nl_x_deck_0 : NL N_x_deck sc_x_deck 0 "_law_script" := ⟨rfl, by decide +kernel, by decide +kernel, by decide +kernel⟩
theorem nl_x_deck_1_1 : NL N_x_deck sc_x_deck_1 1 "_law_cell" := ⟨rfl, by decide +kernel, by decide +kernel, by decide +kernel⟩
theorem ng_x_deck_1_abs : NG sc_x_deck_1 "abs" := ⟨by decide +kernel, by decide +kernel, by decide +kernel⟩
theorem ok_sc_x_deck_1 : BlkOk N_x_deck sc_x_deck usc_x_deck_1 [("_law_cell", 1)] := ⟨rfl, by decide +kernel, by decide +kernel, by decide +kernel, by decide +kernel⟩
noncomputable def E_x_deck_1 : DL.Frame → M D := calF absD [varF 1]
noncomputable def B_x_deck : SM := retF (lstO [cmpO [1] (itF (sliF sliD (varF 0) none (some (cstF (.int 63))))) (tgName 1) (yesF) (E_x_deck_1), cstF (.int 0)])
noncomputable abbrev F_x_deck : List D → M D := defF 2 B_x_deck
theorem ok_x_deck {X : Cx} (c : CxD X N_x_deck sc_x_deck none 0) (G : Gs X.K X.mg) : DSs X W0 B_x_deck (defBody s_x_deck) := DSs_one (DS_ret (DE_lstO (DA_cons (c.cmpo [("_law_cell", 1)] (DI_seq (DE_sli (c.var nl_x_deck_0) DO_none (DO_some (DE_int)))) ok_sc_x_deck_1 (fun _ _ _ _ _ c1 => ⟨c1.tgt nl_x_deck_1_1 (.inl (by decide +kernel)), DTs_nil, c1.blt ng_x_deck_1_abs G.b_abs bt_abs C_abs (DA_cons (c1.var nl_x_deck_1_1) (DA_nil))⟩) (by decide)) (DA_cons (DE_int) (DA_nil)))))
theorem mk_x_deck {P : Program} {w : World} {K : PySem.W.Frag} {mg : Str → Option Value} {base : Heap} {f : Addr} {fd : FuncData} (F : Fun K "_law_deck" "_law_deck" s_x_deck f fd) (hm : mg "_law_deck" = some (.ref f)) (G : Gs K mg) : FnD P w K mg base CX0 1 "_law_deck" 1 [] F_x_deck := by
  have b3 := F.binds (ps := ["_law_script"]) fun _ _ _ _ _ _ us hl => match us, hl with | [_], _ => rfl
  exact ⟨f, fd, ["_law_script"], [], [], hm, F.kp, (fn_body (N := N_x_deck) (ps := ["_law_script"]) (k := 0) F ⟨rfl, rfl, rfl, by decide +kernel, rfl, by decide +kernel, by decide +kernel⟩ (fun X e1 e2 e3 e4 e5 c hx => by subst e1 e2 e3 e4 e5; exact ok_x_deck c G)), b3, .nil, fun _ _ => rfl⟩
/-! ### x_draw -/
abbrev s_x_draw : Stmt := top 8
def N_x_draw : List Str := ["_law_deck_here", "_law_many", "_law_cell", "_law_at", "_law_mixed"]
abbrev sc_x_draw : Scope := defScope s_x_draw
theorem nl_x_draw_0 : NL N_x_draw sc_x_draw 0 "_law_deck_here" := ⟨rfl, by decide +kernel, by decide +kernel, by decide +kernel⟩
theorem nl_x_draw_2 : NL N_x_draw sc_x_draw 2 "_law_cell" := ⟨rfl, by decide +kernel, by decide +kernel, by decide +kernel⟩
theorem nl_x_draw_3 : NL N_x_draw sc_x_draw 3 "_law_at" := ⟨rfl, by decide +kernel, by decide +kernel, by decide +kernel⟩
theorem ng_x_draw_len : NG sc_x_draw "len" := ⟨by decide +kernel, by decide +kernel, by decide +kernel⟩
theorem ng_x_draw_int : NG sc_x_draw "int" := ⟨by decide +kernel, by decide +kernel, by decide +kernel⟩
theorem nl_x_draw_1 : NL N_x_draw sc_x_draw 1 "_law_many" := ⟨rfl, by decide +kernel, by decide +kernel, by decide +kernel⟩
theorem nl_x_draw_4 : NL N_x_draw sc_x_draw 4 "_law_mixed" := ⟨rfl, by decide +kernel, by decide +kernel, by decide +kernel⟩
noncomputable def B_x_draw : SM := seqS (asgG (tgSub (varF 0) (cstF (.int 1))) (binF addD (binF ixD (varF 0) (cstF (.int 1))) (cstF (.int 1)))) (seqS (asgG (tgTup [tgName 2, tgName 3]) (tupF [cstF (.int 0), unF negD (cstF (.int 1))])) (seqS (ifS (tbF (binF gtD (calF lenD [binF ixD (varF 0) (cstF (.int 0))]) (cstF (.int 0)))) (seqS (asgF 3 (binF modD (calF intD [binF ixD (varF 0) (cstF (.int 1))]) (calF lenD [binF ixD (varF 0) (cstF (.int 0))]))) (asgF 2 (binF ixD (binF ixD (varF 0) (cstF (.int 0))) (varF 3)))) (nxF)) (seqS (ifS (tbF (binF geD (varF 2) (binF powD (cstF (.int 10)) (cstF (.int 18))))) (seqS (asgG (tgSub (binF ixD (varF 0) (cstF (.int 0))) (varF 3)) (binF fdivD (calF intD [varF 2]) (varF 1))) (retF (binF modD (calF intD [varF 2]) (varF 1)))) (nxF)) (seqS (asgF 4 (binF addD (binF addD (binF modD (calF intD [varF 2]) (cstF (.int 2147483549))) (binF mulD (cstF (.int 11209)) (binF ixD (varF 0) (cstF (.int 1))))) (cstF (.int 5)))) (retF (binF modD (calF intD [binF modD (calF intD [binF powD (varF 4) (cstF (.int 5))]) (cstF (.int 2147483587))]) (varF 1)))))))
noncomputable abbrev F_x_draw : List D → M D := defF 5 B_x_draw
theorem ok_x_draw {X : Cx} (c : CxD X N_x_draw sc_x_draw none 0) (G : Gs X.K X.mg) : DSs X W0 B_x_draw (defBody s_x_draw) := DSs_cons (DS_asg (DE_bin OpD_add (DE_ix (c.var nl_x_draw_0) (DE_int)) (DE_int)) (DG_sub (W := W0) (c.var nl_x_draw_0) (DE_int))) (DSs_cons (c.asgT (DE_tup (DA_cons (DE_int) (DA_cons (DE_un UnD_neg (DE_int)) (DA_nil)))) (c.tup (DGs_cons (c.tgt nl_x_draw_2 (.inl (by decide +kernel))) (DGs_cons (c.tgt nl_x_draw_3 (.inl (by decide +kernel))) (DGs_nil)))) (by rintro ⟨⟩ h; cases h; rfl)) (DSs_cons (DS_if (DT_cmp OpD_gt (c.blt ng_x_draw_len G.b_len bt_len C_len (DA_cons (DE_ix (c.var nl_x_draw_0) (DE_int)) (DA_nil))) (DE_int)) (DSs_cons (c.set nl_x_draw_3 (.inl (by decide +kernel)) (DE_bin OpD_mod (c.typ ng_x_draw_int G.b_int bt_int C_int (DA_cons (DE_ix (c.var nl_x_draw_0) (DE_int)) (DA_nil))) (c.blt ng_x_draw_len G.b_len bt_len C_len (DA_cons (DE_ix (c.var nl_x_draw_0) (DE_int)) (DA_nil))))) (DSs_one (c.set nl_x_draw_2 (.inl (by decide +kernel)) (DE_ix (DE_ix (c.var nl_x_draw_0) (DE_int)) (c.var nl_x_draw_3))))) (DSs_nil)) (DSs_cons (DS_if (DT_cmp OpD_ge (c.var nl_x_draw_2) (DE_bin OpD_pow (DE_int) (DE_int))) (DSs_cons (DS_asg (DE_bin OpD_fdiv (c.typ ng_x_draw_int G.b_int bt_int C_int (DA_cons (c.var nl_x_draw_2) (DA_nil))) (c.var nl_x_draw_1)) (DG_sub (W := W0) (DE_ix (c.var nl_x_draw_0) (DE_int)) (c.var nl_x_draw_3))) (DSs_one (DS_ret (DE_bin OpD_mod (c.typ ng_x_draw_int G.b_int bt_int C_int (DA_cons (c.var nl_x_draw_2) (DA_nil))) (c.var nl_x_draw_1))))) (DSs_nil)) (DSs_cons (c.set nl_x_draw_4 (.inl (by decide +kernel)) (DE_bin OpD_add (DE_bin OpD_add (DE_bin OpD_mod (c.typ ng_x_draw_int G.b_int bt_int C_int (DA_cons (c.var nl_x_draw_2) (DA_nil))) (DE_int)) (DE_bin OpD_mul (DE_int) (DE_ix (c.var nl_x_draw_0) (DE_int)))) (DE_int))) (DSs_one (DS_ret (DE_bin OpD_mod (c.typ ng_x_draw_int G.b_int bt_int C_int (DA_cons (DE_bin OpD_mod (c.typ ng_x_draw_int G.b_int bt_int C_int (DA_cons (DE_bin OpD_pow (c.var nl_x_draw_4) (DE_int)) (DA_nil))) (DE_int)) (DA_nil))) (c.var nl_x_draw_1))))))))
theorem mk_x_draw {P : Program} {w : World} {K : PySem.W.Frag} {mg : Str → Option Value} {base : Heap} {f : Addr} {fd : FuncData} (F : Fun K "_law_draw" "_law_draw" s_x_draw f fd) (hm : mg "_law_draw" = some (.ref f)) (G : Gs K mg) : FnD P w K mg base CX0 1 "_law_draw" 2 [] F_x_draw := by
  have b3 := F.binds (ps := ["_law_deck_here", "_law_many"]) fun _ _ _ _ _ _ us hl => match us, hl with | [_, _], _ => rfl
  exact ⟨f, fd, ["_law_deck_here", "_law_many"], [], [], hm, F.kp, (fn_body (N := N_x_draw) (ps := ["_law_deck_here", "_law_many"]) (k := 0) F ⟨rfl, rfl, rfl, by decide +kernel, rfl, by decide +kernel, by decide +kernel⟩ (fun X e1 e2 e3 e4 e5 c hx => by subst e1 e2 e3 e4 e5; exact ok_x_draw c G)), b3, .nil, fun _ _ => rfl⟩
/-! ### x_one -/
abbrev s_x_one : Stmt := top 9
def N_x_one : List Str := ["_law_deck_here", "_law_items"]
abbrev sc_x_one : Scope := defScope s_x_one
theorem nl_x_one_1 : NL N_x_one sc_x_one 1 "_law_items" := ⟨rfl, by decide +kernel, by decide +kernel, by decide +kernel⟩
theorem nl_x_one_0 : NL N_x_one sc_x_one 0 "_law_deck_here" := ⟨rfl, by decide +kernel, by decide +kernel, by decide +kernel⟩
theorem ng_x_one_len : NG sc_x_one "len" := ⟨by decide +kernel, by decide +kernel, by decide +kernel⟩
theorem ng_x_one_x_draw : NG sc_x_one "_law_draw" := ⟨by decide +kernel, by decide +kernel, by decide +kernel⟩
noncomputable def B_x_one : SM := retF (binF ixD (varF 1) (calF (fun xs => F_x_draw (xs ++ [])) [varF 0, calF lenD [varF 1]]))
noncomputable abbrev F_x_one : List D → M D := defF 2 B_x_one
theorem ok_x_one {X : Cx} (c : CxD X N_x_one sc_x_one none 1) (G : Gs X.K X.mg) (h_x_draw : FnD X.prog X.w X.K X.mg X.base CX0 1 "_law_draw" 2 [] F_x_draw) : DSs X W0 B_x_one (defBody s_x_one) := DSs_one (DS_ret (DE_ix (c.var nl_x_one_1) (c.call0 ng_x_one_x_draw h_x_draw (by decide) rfl (DA_cons (c.var nl_x_one_0) (DA_cons (c.blt ng_x_one_len G.b_len bt_len C_len (DA_cons (c.var nl_x_one_1) (DA_nil))) (DA_nil))))))
theorem mk_x_one {P : Program} {w : World} {K : PySem.W.Frag} {mg : Str → Option Value} {base : Heap} {f : Addr} {fd : FuncData} (F : Fun K "_law_one" "_law_one" s_x_one f fd) (hm : mg "_law_one" = some (.ref f)) (G : Gs K mg) (h_x_draw : FnD P w K mg base CX0 1 "_law_draw" 2 [] F_x_draw) : FnD P w K mg base CX0 2 "_law_one" 2 [] F_x_one := by
  have b3 := F.binds (ps := ["_law_deck_here", "_law_items"]) fun _ _ _ _ _ _ us hl => match us, hl with | [_, _], _ => rfl
  exact ⟨f, fd, ["_law_deck_here", "_law_items"], [], [], hm, F.kp, (fn_body (N := N_x_one) (ps := ["_law_deck_here", "_law_items"]) (k := 1) F ⟨rfl, rfl, rfl, by decide +kernel, rfl, by decide +kernel, by decide +kernel⟩ (fun X e1 e2 e3 e4 e5 c hx => by subst e1 e2 e3 e4 e5; exact ok_x_one c G h_x_draw)), b3, .nil, fun _ _ => rfl⟩
/-! ### x_formula -/
abbrev s_x_formula : Stmt := top 10
def N_x_formula : List Str := ["_law_deck_here", "_law_room", "_law_way", "_law_left", "_law_first"]
abbrev sc_x_formula : Scope := defScope s_x_formula
theorem nl_x_formula_1 : NL N_x_formula sc_x_formula 1 "_law_room" := ⟨rfl, by decide +kernel, by decide +kernel, by decide +kernel⟩
theorem nl_x_formula_0 : NL N_x_formula sc_x_formula 0 "_law_deck_here" := ⟨rfl, by decide +kernel, by decide +kernel, by decide +kernel⟩
theorem ng_x_formula_x_draw : NG sc_x_formula "_law_draw" := ⟨by decide +kernel, by decide +kernel, by decide +kernel⟩
theorem nl_x_formula_2 : NL N_x_formula sc_x_formula 2 "_law_way" := ⟨rfl, by decide +kernel, by decide +kernel, by decide +kernel⟩
theorem ng_x_formula_x_one : NG sc_x_formula "_law_one" := ⟨by decide +kernel, by decide +kernel, by decide +kernel⟩
theorem ng_x_formula_x_formula : NG sc_x_formula "_law_formula" := ⟨by decide +kernel, by decide +kernel, by decide +kernel⟩
theorem nl_x_formula_3 : NL N_x_formula sc_x_formula 3 "_law_left" := ⟨rfl, by decide +kernel, by decide +kernel, by decide +kernel⟩
theorem nl_x_formula_4 : NL N_x_formula sc_x_formula 4 "_law_first" := ⟨rfl, by decide +kernel, by decide +kernel, by decide +kernel⟩
noncomputable def B_x_formula (self : List D → M D) : SM := seqS (asgF 2 (iteF (tbF (binF gtD (varF 1) (cstF (.int 0)))) (calF (fun xs => F_x_draw (xs ++ [])) [varF 0, cstF (.int 5)]) (cstF (.int 0)))) (seqS (ifS (tbF (binF eqD (varF 2) (cstF (.int 0)))) (retF (calF (fun xs => F_x_one (xs ++ [])) [varF 0, lstF [cstF (.str "a"), cstF (.str "b"), cstF (.str "c"), cstF (.str "d"), calF (fun xs => F_x_draw (xs ++ [])) [varF 0, cstF (.int 10)], calF (fun xs => F_x_draw (xs ++ [])) [varF 0, cstF (.int 100)], cstF (.int 0)]])) (nxF)) (seqS (ifS (tbF (binF eqD (varF 2) (cstF (.int 1)))) (retF (tupF [cstF (.str "neg"), calF (fun xs => self (xs ++ [])) [varF 0, binF subD (varF 1) (cstF (.int 1))]])) (nxF)) (seqS (asgF 3 (calF (fun xs => F_x_draw (xs ++ [])) [varF 0, varF 1])) (seqS (asgF 4 (calF (fun xs => self (xs ++ [])) [varF 0, varF 3])) (retF (tupF [calF (fun xs => F_x_one (xs ++ [])) [varF 0, lstF [cstF (.str "+"), cstF (.str "-"), cstF (.str "*")]], varF 4, calF (fun xs => self (xs ++ [])) [varF 0, binF subD (binF subD (varF 1) (cstF (.int 1))) (varF 3)]]))))))
noncomputable def F_x_formula : Nat → List D → M D
  | 0 => fun _ => bad
  | k + 1 => defF 5 (B_x_formula (F_x_formula k))
theorem ok_x_formula {X : Cx} {k : Nat} (hk : 2 ≤ k) (self : List D → M D) (c : CxD X N_x_formula sc_x_formula none k) (G : Gs X.K X.mg) (h_x_draw : FnD X.prog X.w X.K X.mg X.base CX0 1 "_law_draw" 2 [] F_x_draw) (h_x_one : FnD X.prog X.w X.K X.mg X.base CX0 2 "_law_one" 2 [] F_x_one) (h_self : FnD X.prog X.w X.K X.mg X.base CX0 k "_law_formula" 2 [] self) : DSs X W0 (B_x_formula self) (defBody s_x_formula) := DSs_cons (c.set nl_x_formula_2 (.inl (by decide +kernel)) (DE_ite (DT_cmp OpD_gt (c.var nl_x_formula_1) (DE_int)) (c.call0 ng_x_formula_x_draw h_x_draw (Nat.le_trans (by decide) hk) rfl (DA_cons (c.var nl_x_formula_0) (DA_cons (DE_int) (DA_nil)))) (DE_int))) (DSs_cons (DS_if (DT_cmp (OpD_eq c.hu) (c.var nl_x_formula_2) (DE_int)) (DSs_one (DS_ret (c.call0 ng_x_formula_x_one h_x_one (Nat.le_trans (by decide) hk) rfl (DA_cons (c.var nl_x_formula_0) (DA_cons (DE_lst (DA_cons (DE_str) (DA_cons (DE_str) (DA_cons (DE_str) (DA_cons (DE_str) (DA_cons (c.call0 ng_x_formula_x_draw h_x_draw (Nat.le_trans (by decide) hk) rfl (DA_cons (c.var nl_x_formula_0) (DA_cons (DE_int) (DA_nil)))) (DA_cons (c.call0 ng_x_formula_x_draw h_x_draw (Nat.le_trans (by decide) hk) rfl (DA_cons (c.var nl_x_formula_0) (DA_cons (DE_int) (DA_nil)))) (DA_cons (DE_int) (DA_nil))))))))) (DA_nil)))))) (DSs_nil)) (DSs_cons (DS_if (DT_cmp (OpD_eq c.hu) (c.var nl_x_formula_2) (DE_int)) (DSs_one (DS_ret (DE_tup (DA_cons (DE_str) (DA_cons (c.call0 ng_x_formula_x_formula h_self (Nat.le_refl _) rfl (DA_cons (c.var nl_x_formula_0) (DA_cons (DE_bin OpD_sub (c.var nl_x_formula_1) (DE_int)) (DA_nil)))) (DA_nil)))))) (DSs_nil)) (DSs_cons (c.set nl_x_formula_3 (.inl (by decide +kernel)) (c.call0 ng_x_formula_x_draw h_x_draw (Nat.le_trans (by decide) hk) rfl (DA_cons (c.var nl_x_formula_0) (DA_cons (c.var nl_x_formula_1) (DA_nil))))) (DSs_cons (c.set nl_x_formula_4 (.inl (by decide +kernel)) (c.call0 ng_x_formula_x_formula h_self (Nat.le_refl _) rfl (DA_cons (c.var nl_x_formula_0) (DA_cons (c.var nl_x_formula_3) (DA_nil))))) (DSs_one (DS_ret (DE_tup (DA_cons (c.call0 ng_x_formula_x_one h_x_one (Nat.le_trans (by decide) hk) rfl (DA_cons (c.var nl_x_formula_0) (DA_cons (DE_lst (DA_cons (DE_str) (DA_cons (DE_str) (DA_cons (DE_str) (DA_nil))))) (DA_nil)))) (DA_cons (c.var nl_x_formula_4) (DA_cons (c.call0 ng_x_formula_x_formula h_self (Nat.le_refl _) rfl (DA_cons (c.var nl_x_formula_0) (DA_cons (DE_bin OpD_sub (DE_bin OpD_sub (c.var nl_x_formula_1) (DE_int)) (c.var nl_x_formula_3)) (DA_nil)))) (DA_nil)))))))))))
theorem mk_x_formula {P : Program} {w : World} {K : PySem.W.Frag} {mg : Str → Option Value} {base : Heap} {f : Addr} {fd : FuncData} (F : Fun K "_law_formula" "_law_formula" s_x_formula f fd) (hm : mg "_law_formula" = some (.ref f)) (G : Gs K mg) (h_x_draw : FnD P w K mg base CX0 1 "_law_draw" 2 [] F_x_draw) (h_x_one : FnD P w K mg base CX0 2 "_law_one" 2 [] F_x_one) : ∀ n : Nat, FnD P w K mg base CX0 (2 + n) "_law_formula" 2 [] (F_x_formula n)
  | 0 => FnD.zero hm F.kp rfl (F.binds (ps := ["_law_deck_here", "_law_room"]) fun _ _ _ _ _ _ us hl => match us, hl with | [_, _], _ => rfl)
  | k + 1 => by
    have ih := mk_x_formula (P := P) (w := w) (base := base) F hm G h_x_draw h_x_one k
    exact ⟨f, fd, ["_law_deck_here", "_law_room"], [], [], hm, F.kp, fn_body (N := N_x_formula) (ps := ["_law_deck_here", "_law_room"]) (k := 2 + k) F ⟨rfl, rfl, rfl, by decide +kernel, rfl, by decide +kernel, by decide +kernel⟩ (fun X e1 e2 e3 e4 e5 c hx => by subst e1 e2 e3 e4 e5; exact ok_x_formula (Nat.le_add_right _ _) _ c G h_x_draw h_x_one ih), F.binds (ps := ["_law_deck_here", "_law_room"]) fun _ _ _ _ _ _ us hl => match us, hl with | [_, _], _ => rfl, .nil, fun _ _ => rfl⟩
/-! ### needs -/
abbrev s_needs : Stmt := top 2
def N_needs : List Str := ["formula", "first", "second"]
abbrev sc_needs : Scope := defScope s_needs
theorem nl_needs_0 : NL N_needs sc_needs 0 "formula" := ⟨rfl, by decide +kernel, by decide +kernel, by decide +kernel⟩
theorem ng_needs_isinstance : NG sc_needs "isinstance" := ⟨by decide +kernel, by decide +kernel, by decide +kernel⟩
theorem ng_needs_tuple : NG sc_needs "tuple" := ⟨by decide +kernel, by decide +kernel, by decide +kernel⟩
theorem ng_needs_needs : NG sc_needs "needs" := ⟨by decide +kernel, by decide +kernel, by decide +kernel⟩
theorem nl_needs_1 : NL N_needs sc_needs 1 "first" := ⟨rfl, by decide +kernel, by decide +kernel, by decide +kernel⟩
theorem nl_needs_2 : NL N_needs sc_needs 2 "second" := ⟨rfl, by decide +kernel, by decide +kernel, by decide +kernel⟩
theorem ng_needs_max : NG sc_needs "max" := ⟨by decide +kernel, by decide +kernel, by decide +kernel⟩
noncomputable def B_needs (self : List D → M D) : SM := seqS (ifS (notF (tstF (unF (isiD "tuple") (varF 0)))) (retF (cstF (.int 1))) (nxF)) (seqS (ifS (tbF (binF eqD (binF ixD (varF 0) (cstF (.int 0))) (cstF (.str "neg")))) (retF (calF (fun xs => self (xs ++ [])) [binF ixD (varF 0) (cstF (.int 1))])) (nxF)) (seqS (parF [1, 2] [calF (fun xs => self (xs ++ [])) [binF ixD (varF 0) (cstF (.int 1))], calF (fun xs => self (xs ++ [])) [binF ixD (varF 0) (cstF (.int 2))]]) (retF (iteF (tbF (binF eqD (varF 1) (varF 2))) (binF addD (varF 1) (cstF (.int 1))) (calF max2D [varF 1, varF 2])))))
noncomputable def F_needs : Nat → List D → M D
  | 0 => fun _ => bad
  | k + 1 => defF 3 (B_needs (F_needs k))
theorem ok_needs {X : Cx} {k : Nat} (hk : 0 ≤ k) (self : List D → M D) (c : CxD X N_needs sc_needs none k) (G : Gs X.K X.mg) (h_self : FnD X.prog X.w X.K X.mg X.base CX0 k "needs" 1 [] self) : DSs X W0 (B_needs self) (defBody s_needs) := DSs_cons (DS_if (DT_not (DT_val (c.isi ng_needs_isinstance ng_needs_tuple G.b_isinstance G.b_tuple (c.var nl_needs_0) bt_tuple))) (DSs_one (DS_ret (DE_int))) (DSs_nil)) (DSs_cons (DS_if (DT_cmp (OpD_eq c.hu) (DE_ix (c.var nl_needs_0) (DE_int)) (DE_str)) (DSs_one (DS_ret (c.call0 ng_needs_needs h_self (Nat.le_refl _) rfl (DA_cons (DE_ix (c.var nl_needs_0) (DE_int)) (DA_nil))))) (DSs_nil)) (DSs_cons (c.par nl_needs_1 nl_needs_2 (by decide +kernel) (by decide +kernel) (DA_cons (c.call0 ng_needs_needs h_self (Nat.le_refl _) rfl (DA_cons (DE_ix (c.var nl_needs_0) (DE_int)) (DA_nil))) (DA_cons (c.call0 ng_needs_needs h_self (Nat.le_refl _) rfl (DA_cons (DE_ix (c.var nl_needs_0) (DE_int)) (DA_nil))) (DA_nil))) (by rintro ⟨⟩ h; cases h; rfl)) (DSs_one (DS_ret (DE_ite (DT_cmp (OpD_eq c.hu) (c.var nl_needs_1) (c.var nl_needs_2)) (DE_bin OpD_add (c.var nl_needs_1) (DE_int)) (c.blt ng_needs_max G.b_max bt_max (C_max2 c.calm) (DA_cons (c.var nl_needs_1) (DA_cons (c.var nl_needs_2) (DA_nil)))))))))
theorem mk_needs {P : Program} {w : World} {K : PySem.W.Frag} {mg : Str → Option Value} {base : Heap} {f : Addr} {fd : FuncData} (F : Fun K "needs" "needs" s_needs f fd) (hm : mg "needs" = some (.ref f)) (G : Gs K mg) : ∀ n : Nat, FnD P w K mg base CX0 (0 + n) "needs" 1 [] (F_needs n)
  | 0 => FnD.zero hm F.kp rfl (F.binds (ps := ["formula"]) fun _ _ _ _ _ _ us hl => match us, hl with | [_], _ => rfl)
  | k + 1 => by
    have ih := mk_needs (P := P) (w := w) (base := base) F hm G k
    exact ⟨f, fd, ["formula"], [], [], hm, F.kp, fn_body (N := N_needs) (ps := ["formula"]) (k := 0 + k) F ⟨rfl, rfl, rfl, by decide +kernel, rfl, by decide +kernel, by decide +kernel⟩ (fun X e1 e2 e3 e4 e5 c hx => by subst e1 e2 e3 e4 e5; exact ok_needs (Nat.le_add_right _ _) _ c G ih), F.binds (ps := ["formula"]) fun _ _ _ _ _ _ us hl => match us, hl with | [_], _ => rfl, .nil, fun _ _ => rfl⟩
/-! ### joined -/
abbrev s_joined : Stmt := top 3
def N_joined : List Str := ["first", "second", "is_apart"]
abbrev sc_joined : Scope := defScope s_joined
theorem nl_joined_0 : NL N_joined sc_joined 0 "first" := ⟨rfl, by decide +kernel, by decide +kernel, by decide +kernel⟩
theorem ng_joined_DIGITS : NG sc_joined "DIGITS" := ⟨by decide +kernel, by decide +kernel, by decide +kernel⟩
theorem nl_joined_1 : NL N_joined sc_joined 1 "second" := ⟨rfl, by decide +kernel, by decide +kernel, by decide +kernel⟩
theorem nl_joined_2 : NL N_joined sc_joined 2 "is_apart" := ⟨rfl, by decide +kernel, by decide +kernel, by decide +kernel⟩
noncomputable def B_joined : SM := seqS (asgF 2 (orV (binF notInD (binF ixD (varF 0) (unF negD (cstF (.int 1)))) (cstF (.str "0123456789"))) (binF notInD (binF ixD (varF 1) (cstF (.int 0))) (cstF (.str "0123456789"))))) (retF (iteF (tstF (varF 2)) (binF addD (varF 0) (varF 1)) (binF addD (binF addD (varF 0) (tupF [cstF (.str "enter")])) (varF 1))))
noncomputable abbrev F_joined : List D → M D := defF 3 B_joined
theorem ok_joined {X : Cx} (c : CxD X N_joined sc_joined none 0) (G : Gs X.K X.mg) : DSs X W0 B_joined (defBody s_joined) := DSs_cons (c.set nl_joined_2 (.inl (by decide +kernel)) (DE_or (DE_cmp (OpD_notin c.hu5) (DE_ix (c.var nl_joined_0) (DE_un UnD_neg (DE_int))) (c.gstr ng_joined_DIGITS G.c_DIGITS)) (DE_one (DE_cmp (OpD_notin c.hu5) (DE_ix (c.var nl_joined_1) (DE_int)) (c.gstr ng_joined_DIGITS G.c_DIGITS))))) (DSs_one (DS_ret (DE_ite (DT_val (c.var nl_joined_2)) (DE_bin OpD_add (c.var nl_joined_0) (c.var nl_joined_1)) (DE_bin OpD_add (DE_bin OpD_add (c.var nl_joined_0) (DE_tup (DA_cons (DE_str) (DA_nil)))) (c.var nl_joined_1)))))
theorem mk_joined {P : Program} {w : World} {K : PySem.W.Frag} {mg : Str → Option Value} {base : Heap} {f : Addr} {fd : FuncData} (F : Fun K "joined" "joined" s_joined f fd) (hm : mg "joined" = some (.ref f)) (G : Gs K mg) : FnD P w K mg base CX0 1 "joined" 2 [] F_joined := by
  have b3 := F.binds (ps := ["first", "second"]) fun _ _ _ _ _ _ us hl => match us, hl with | [_, _], _ => rfl
  exact ⟨f, fd, ["first", "second"], [], [], hm, F.kp, (fn_body (N := N_joined) (ps := ["first", "second"]) (k := 0) F ⟨rfl, rfl, rfl, by decide +kernel, rfl, by decide +kernel, by decide +kernel⟩ (fun X e1 e2 e3 e4 e5 c hx => by subst e1 e2 e3 e4 e5; exact ok_joined c G)), b3, .nil, fun _ _ => rfl⟩
/-! ### plain_row -/
abbrev s_plain_row : Stmt := top 4
def N_plain_row : List Str := ["formula", "first", "second", "digit"]
abbrev sc_plain_row : Scope := defScope s_plain_row
def usc_plain_row_1 : Scope := ⟨.function, [(".0", .local), ("digit", .local)], false, false, []⟩
abbrev sc_plain_row_1 : Scope := relS usc_plain_row_1 sc_plain_row
theorem nl_plain_row_0 : NL N_plain_row sc_plain_row 0 "formula" := ⟨rfl, by decide +kernel, by decide +kernel, by decide +kernel⟩
theorem ng_plain_row_isinstance : NG sc_plain_row "isinstance" := ⟨by decide +kernel, by decide +kernel, by decide +kernel⟩
theorem ng_plain_row_int : NG sc_plain_row "int" := ⟨by decide +kernel, by decide +kernel, by decide +kernel⟩
theorem ng_plain_row_str : NG sc_plain_row "str" := ⟨by decide +kernel, by decide +kernel, by decide +kernel⟩
theorem nl_plain_row_1_3 : NL N_plain_row sc_plain_row_1 3 "digit" := ⟨rfl, by decide +kernel, by decide +kernel, by decide +kernel⟩
theorem ok_sc_plain_row_1 : BlkOk N_plain_row sc_plain_row usc_plain_row_1 [("digit", 3)] := ⟨rfl, by decide +kernel, by decide +kernel, by decide +kernel, by decide +kernel⟩
theorem ng_plain_row_tuple : NG sc_plain_row "tuple" := ⟨by decide +kernel, by decide +kernel, by decide +kernel⟩
theorem ng_plain_row_plain_row : NG sc_plain_row "plain_row" := ⟨by decide +kernel, by decide +kernel, by decide +kernel⟩
theorem nl_plain_row_1 : NL N_plain_row sc_plain_row 1 "first" := ⟨rfl, by decide +kernel, by decide +kernel, by decide +kernel⟩
theorem nl_plain_row_2 : NL N_plain_row sc_plain_row 2 "second" := ⟨rfl, by decide +kernel, by decide +kernel, by decide +kernel⟩
theorem ng_plain_row_needs : NG sc_plain_row "needs" := ⟨by decide +kernel, by decide +kernel, by decide +kernel⟩
theorem ng_plain_row_joined : NG sc_plain_row "joined" := ⟨by decide +kernel, by decide +kernel, by decide +kernel⟩
noncomputable def E_plain_row_1 (self : List D → M D) : DL.Frame → M D := varF 3
noncomputable def B_plain_row (self : List D → M D) : SM := seqS (ifS (tstF (unF (isiD "int") (varF 0))) (retF (calF tupleD [cmpD [3] (itS (calF strD [varF 0])) (tgName 3) (yesF) (E_plain_row_1 self)])) (nxF)) (seqS (ifS (tstF (unF (isiD "str") (varF 0))) (retF (tupF [varF 0])) (nxF)) (seqS (ifS (tbF (binF eqD (binF ixD (varF 0) (cstF (.int 0))) (cstF (.str "neg")))) (retF (binF addD (calF (fun xs => self (xs ++ [])) [binF ixD (varF 0) (cstF (.int 1))]) (tupF [cstF (.str "neg")]))) (nxF)) (seqS (parF [1, 2] [calF (fun xs => self (xs ++ [])) [binF ixD (varF 0) (cstF (.int 1))], calF (fun xs => self (xs ++ [])) [binF ixD (varF 0) (cstF (.int 2))]]) (seqS (ifS (tbF (binF gtD (calF (fun xs => F_needs 20 (xs ++ [])) [binF ixD (varF 0) (cstF (.int 2))]) (calF (fun xs => F_needs 20 (xs ++ [])) [binF ixD (varF 0) (cstF (.int 1))]))) (retF (binF addD (calF (fun xs => F_joined (xs ++ [])) [varF 2, varF 1]) (iteF (tbF (binF eqD (binF ixD (varF 0) (cstF (.int 0))) (cstF (.str "-")))) (tupF [cstF (.str "swap"), cstF (.str "-")]) (sliF sliD (varF 0) none (some (cstF (.int 1))))))) (nxF)) (retF (binF addD (calF (fun xs => F_joined (xs ++ [])) [varF 1, varF 2]) (sliF sliD (varF 0) none (some (cstF (.int 1))))))))))
noncomputable def F_plain_row : Nat → List D → M D
  | 0 => fun _ => bad
  | k + 1 => defF 4 (B_plain_row (F_plain_row k))
theorem ok_plain_row {X : Cx} {k : Nat} (hk : 20 ≤ k) (self : List D → M D) (c : CxD X N_plain_row sc_plain_row none k) (G : Gs X.K X.mg) (h_needs : FnD X.prog X.w X.K X.mg X.base CX0 20 "needs" 1 [] (F_needs 20)) (h_joined : FnD X.prog X.w X.K X.mg X.base CX0 1 "joined" 2 [] F_joined) (h_self : FnD X.prog X.w X.K X.mg X.base CX0 k "plain_row" 1 [] self) : DSs X W0 (B_plain_row self) (defBody s_plain_row) := DSs_cons (DS_if (DT_val (c.isi ng_plain_row_isinstance ng_plain_row_int G.b_isinstance G.b_int (c.var nl_plain_row_0) bt_int)) (DSs_one (DS_ret (c.typ ng_plain_row_tuple G.b_tuple bt_tuple C_tuple (DA_cons (c.cmp [("digit", 3)] (DI_str (c.typ ng_plain_row_str G.b_str bt_str C_str (DA_cons (c.var nl_plain_row_0) (DA_nil)))) ok_sc_plain_row_1 (fun _ _ _ _ _ c1 => ⟨c1.tgt nl_plain_row_1_3 (.inl (by decide +kernel)), DTs_nil, c1.var nl_plain_row_1_3⟩) (by decide)) (DA_nil))))) (DSs_nil)) (DSs_cons (DS_if (DT_val (c.isi ng_plain_row_isinstance ng_plain_row_str G.b_isinstance G.b_str (c.var nl_plain_row_0) bt_str)) (DSs_one (DS_ret (DE_tup (DA_cons (c.var nl_plain_row_0) (DA_nil))))) (DSs_nil)) (DSs_cons (DS_if (DT_cmp (OpD_eq c.hu) (DE_ix (c.var nl_plain_row_0) (DE_int)) (DE_str)) (DSs_one (DS_ret (DE_bin OpD_add (c.call0 ng_plain_row_plain_row h_self (Nat.le_refl _) rfl (DA_cons (DE_ix (c.var nl_plain_row_0) (DE_int)) (DA_nil))) (DE_tup (DA_cons (DE_str) (DA_nil)))))) (DSs_nil)) (DSs_cons (c.par nl_plain_row_1 nl_plain_row_2 (by decide +kernel) (by decide +kernel) (DA_cons (c.call0 ng_plain_row_plain_row h_self (Nat.le_refl _) rfl (DA_cons (DE_ix (c.var nl_plain_row_0) (DE_int)) (DA_nil))) (DA_cons (c.call0 ng_plain_row_plain_row h_self (Nat.le_refl _) rfl (DA_cons (DE_ix (c.var nl_plain_row_0) (DE_int)) (DA_nil))) (DA_nil))) (by rintro ⟨⟩ h; cases h; rfl)) (DSs_cons (DS_if (DT_cmp OpD_gt (c.call0 ng_plain_row_needs h_needs (Nat.le_trans (by decide) hk) rfl (DA_cons (DE_ix (c.var nl_plain_row_0) (DE_int)) (DA_nil))) (c.call0 ng_plain_row_needs h_needs (Nat.le_trans (by decide) hk) rfl (DA_cons (DE_ix (c.var nl_plain_row_0) (DE_int)) (DA_nil)))) (DSs_one (DS_ret (DE_bin OpD_add (c.call0 ng_plain_row_joined h_joined (Nat.le_trans (by decide) hk) rfl (DA_cons (c.var nl_plain_row_2) (DA_cons (c.var nl_plain_row_1) (DA_nil)))) (DE_ite (DT_cmp (OpD_eq c.hu) (DE_ix (c.var nl_plain_row_0) (DE_int)) (DE_str)) (DE_tup (DA_cons (DE_str) (DA_cons (DE_str) (DA_nil)))) (DE_sli (c.var nl_plain_row_0) DO_none (DO_some (DE_int))))))) (DSs_nil)) (DSs_one (DS_ret (DE_bin OpD_add (c.call0 ng_plain_row_joined h_joined (Nat.le_trans (by decide) hk) rfl (DA_cons (c.var nl_plain_row_1) (DA_cons (c.var nl_plain_row_2) (DA_nil)))) (DE_sli (c.var nl_plain_row_0) DO_none (DO_some (DE_int))))))))))
theorem mk_plain_row {P : Program} {w : World} {K : PySem.W.Frag} {mg : Str → Option Value} {base : Heap} {f : Addr} {fd : FuncData} (F : Fun K "plain_row" "plain_row" s_plain_row f fd) (hm : mg "plain_row" = some (.ref f)) (G : Gs K mg) (h_needs : FnD P w K mg base CX0 20 "needs" 1 [] (F_needs 20)) (h_joined : FnD P w K mg base CX0 1 "joined" 2 [] F_joined) : ∀ n : Nat, FnD P w K mg base CX0 (20 + n) "plain_row" 1 [] (F_plain_row n)
  | 0 => FnD.zero hm F.kp rfl (F.binds (ps := ["formula"]) fun _ _ _ _ _ _ us hl => match us, hl with | [_], _ => rfl)
  | k + 1 => by
    have ih := mk_plain_row (P := P) (w := w) (base := base) F hm G h_needs h_joined k
    exact ⟨f, fd, ["formula"], [], [], hm, F.kp, fn_body (N := N_plain_row) (ps := ["formula"]) (k := 20 + k) F ⟨rfl, rfl, rfl, by decide +kernel, rfl, by decide +kernel, by decide +kernel⟩ (fun X e1 e2 e3 e4 e5 c hx => by subst e1 e2 e3 e4 e5; exact ok_plain_row (Nat.le_add_right _ _) _ c G h_needs h_joined ih), F.binds (ps := ["formula"]) fun _ _ _ _ _ _ us hl => match us, hl with | [_], _ => rfl, .nil, fun _ _ => rfl⟩
/-! ### tree_rows -/
abbrev s_tree_rows : Stmt := top 5
def N_tree_rows : List Str := ["formula", "found", "first", "second", "row"]
abbrev sc_tree_rows : Scope := defScope s_tree_rows
def usc_tree_rows_1 : Scope := ⟨.function, [(".0", .local), ("row", .local)], false, false, []⟩
abbrev sc_tree_rows_1 : Scope := relS usc_tree_rows_1 sc_tree_rows
theorem nl_tree_rows_0 : NL N_tree_rows sc_tree_rows 0 "formula" := ⟨rfl, by decide +kernel, by decide +kernel, by decide +kernel⟩
theorem ng_tree_rows_isinstance : NG sc_tree_rows "isinstance" := ⟨by decide +kernel, by decide +kernel, by decide +kernel⟩
theorem ng_tree_rows_tuple : NG sc_tree_rows "tuple" := ⟨by decide +kernel, by decide +kernel, by decide +kernel⟩
theorem ng_tree_rows_plain_row : NG sc_tree_rows "plain_row" := ⟨by decide +kernel, by decide +kernel, by decide +kernel⟩
theorem ng_tree_rows_tree_rows : NG sc_tree_rows "tree_rows" := ⟨by decide +kernel, by decide +kernel, by decide +kernel⟩
theorem nl_tree_rows_1_4 : NL N_tree_rows sc_tree_rows_1 4 "row" := ⟨rfl, by decide +kernel, by decide +kernel, by decide +kernel⟩
theorem ok_sc_tree_rows_1 : BlkOk N_tree_rows sc_tree_rows usc_tree_rows_1 [("row", 4)] := ⟨rfl, by decide +kernel, by decide +kernel, by decide +kernel, by decide +kernel⟩
theorem ng_tree_rows_sorted : NG sc_tree_rows "sorted" := ⟨by decide +kernel, by decide +kernel, by decide +kernel⟩
theorem nl_tree_rows_1 : NL N_tree_rows sc_tree_rows 1 "found" := ⟨rfl, by decide +kernel, by decide +kernel, by decide +kernel⟩
theorem nl_tree_rows_2 : NL N_tree_rows sc_tree_rows 2 "first" := ⟨rfl, by decide +kernel, by decide +kernel, by decide +kernel⟩
theorem nl_tree_rows_3 : NL N_tree_rows sc_tree_rows 3 "second" := ⟨rfl, by decide +kernel, by decide +kernel, by decide +kernel⟩
theorem ng_tree_rows_joined : NG sc_tree_rows "joined" := ⟨by decide +kernel, by decide +kernel, by decide +kernel⟩
noncomputable def E_tree_rows_1 (self : List D → M D) : DL.Frame → M D := binF addD (varF 4) (tupF [cstF (.str "neg")])
noncomputable def L_tree_rows_2 (self : List D → M D) : SM := seqS (asgG (tgDic (varF 1) (binF addD (calF (fun xs => F_joined (xs ++ [])) [varF 2, varF 3]) (sliF sliD (varF 0) none (some (cstF (.int 1)))))) (cstF (.bl true))) (asgG (tgDic (varF 1) (binF addD (calF (fun xs => F_joined (xs ++ [])) [varF 3, varF 2]) (iteF (tbF (binF eqD (binF ixD (varF 0) (cstF (.int 0))) (cstF (.str "-")))) (tupF [cstF (.str "swap"), cstF (.str "-")]) (sliF sliD (varF 0) none (some (cstF (.int 1))))))) (cstF (.bl true)))
noncomputable def L_tree_rows_1 (self : List D → M D) : SM := forF (itF (calF (fun xs => self (xs ++ [])) [binF ixD (varF 0) (cstF (.int 2))])) (tgName 3) (L_tree_rows_2 self)
noncomputable def B_tree_rows (self : List D → M D) : SM := seqS (ifS (notF (tstF (unF (isiD "tuple") (varF 0)))) (retF (tupF [calF (fun xs => F_plain_row 20 (xs ++ [])) [varF 0]])) (nxF)) (seqS (ifS (tbF (binF eqD (binF ixD (varF 0) (cstF (.int 0))) (cstF (.str "neg")))) (retF (calF tupleD [calF sortedX [cmpD [4] (itF (calF (fun xs => self (xs ++ [])) [binF ixD (varF 0) (cstF (.int 1))])) (tgName 4) (yesF) (E_tree_rows_1 self)]])) (nxF)) (seqS (asgF 1 (dctT)) (seqS (forF (itF (calF (fun xs => self (xs ++ [])) [binF ixD (varF 0) (cstF (.int 1))])) (tgName 2) (L_tree_rows_1 self)) (retF (calF tupleD [calF sortedT [varF 1]])))))
noncomputable def F_tree_rows : Nat → List D → M D
  | 0 => fun _ => bad
  | k + 1 => defF 5 (B_tree_rows (F_tree_rows k))
theorem ok_tree_rows {X : Cx} {k : Nat} (hk : 40 ≤ k) (self : List D → M D) (c : CxD X N_tree_rows sc_tree_rows none k) (G : Gs X.K X.mg) (h_plain_row : FnD X.prog X.w X.K X.mg X.base CX0 40 "plain_row" 1 [] (F_plain_row 20)) (h_joined : FnD X.prog X.w X.K X.mg X.base CX0 1 "joined" 2 [] F_joined) (h_self : FnD X.prog X.w X.K X.mg X.base CX0 k "tree_rows" 1 [] self) : DSs X W0 (B_tree_rows self) (defBody s_tree_rows) := DSs_cons (DS_if (DT_not (DT_val (c.isi ng_tree_rows_isinstance ng_tree_rows_tuple G.b_isinstance G.b_tuple (c.var nl_tree_rows_0) bt_tuple))) (DSs_one (DS_ret (DE_tup (DA_cons (c.call0 ng_tree_rows_plain_row h_plain_row (Nat.le_trans (by decide) hk) rfl (DA_cons (c.var nl_tree_rows_0) (DA_nil))) (DA_nil))))) (DSs_nil)) (DSs_cons (DS_if (DT_cmp (OpD_eq c.hu) (DE_ix (c.var nl_tree_rows_0) (DE_int)) (DE_str)) (DSs_one (DS_ret (c.typ ng_tree_rows_tuple G.b_tuple bt_tuple C_tuple (DA_cons (c.blt ng_tree_rows_sorted G.b_sorted bt_sorted (C_sortedX c.hu) (DA_cons (c.cmp [("row", 4)] (DI_seq (c.call0 ng_tree_rows_tree_rows h_self (Nat.le_refl _) rfl (DA_cons (DE_ix (c.var nl_tree_rows_0) (DE_int)) (DA_nil)))) ok_sc_tree_rows_1 (fun _ _ _ _ _ c1 => ⟨c1.tgt nl_tree_rows_1_4 (.inl (by decide +kernel)), DTs_nil, DE_bin OpD_add (c1.var nl_tree_rows_1_4) (DE_tup (DA_cons (DE_str) (DA_nil)))⟩) (by decide)) (DA_nil))) (DA_nil))))) (DSs_nil)) (DSs_cons (c.set nl_tree_rows_1 (.inl (by decide +kernel)) (DE_dctT)) (DSs_cons (c.for_ (DI_seq (c.call0 ng_tree_rows_tree_rows h_self (Nat.le_refl _) rfl (DA_cons (DE_ix (c.var nl_tree_rows_0) (DE_int)) (DA_nil)))) (c.tgt nl_tree_rows_2 (.inl (by decide +kernel))) (DSs_one (c.for_ (DI_seq (c.call0 ng_tree_rows_tree_rows h_self (Nat.le_refl _) rfl (DA_cons (DE_ix (c.var nl_tree_rows_0) (DE_int)) (DA_nil)))) (c.tgt nl_tree_rows_3 (.inl (by decide +kernel))) (DSs_cons (DS_asg (DE_bl) (DG_dic (W := W0) c.hu (c.var nl_tree_rows_1) (DE_bin OpD_add (c.call0 ng_tree_rows_joined h_joined (Nat.le_trans (by decide) hk) rfl (DA_cons (c.var nl_tree_rows_2) (DA_cons (c.var nl_tree_rows_3) (DA_nil)))) (DE_sli (c.var nl_tree_rows_0) DO_none (DO_some (DE_int)))))) (DSs_one (DS_asg (DE_bl) (DG_dic (W := W0) c.hu (c.var nl_tree_rows_1) (DE_bin OpD_add (c.call0 ng_tree_rows_joined h_joined (Nat.le_trans (by decide) hk) rfl (DA_cons (c.var nl_tree_rows_3) (DA_cons (c.var nl_tree_rows_2) (DA_nil)))) (DE_ite (DT_cmp (OpD_eq c.hu) (DE_ix (c.var nl_tree_rows_0) (DE_int)) (DE_str)) (DE_tup (DA_cons (DE_str) (DA_cons (DE_str) (DA_nil)))) (DE_sli (c.var nl_tree_rows_0) DO_none (DO_some (DE_int)))))))))))) (DSs_one (DS_ret (c.typ ng_tree_rows_tuple G.b_tuple bt_tuple C_tuple (DA_cons (c.blt ng_tree_rows_sorted G.b_sorted bt_sorted (C_sortedT c.calm c.hu) (DA_cons (c.var nl_tree_rows_1) (DA_nil))) (DA_nil))))))))
theorem mk_tree_rows {P : Program} {w : World} {K : PySem.W.Frag} {mg : Str → Option Value} {base : Heap} {f : Addr} {fd : FuncData} (F : Fun K "tree_rows" "tree_rows" s_tree_rows f fd) (hm : mg "tree_rows" = some (.ref f)) (G : Gs K mg) (h_plain_row : FnD P w K mg base CX0 40 "plain_row" 1 [] (F_plain_row 20)) (h_joined : FnD P w K mg base CX0 1 "joined" 2 [] F_joined) : ∀ n : Nat, FnD P w K mg base CX0 (40 + n) "tree_rows" 1 [] (F_tree_rows n)
  | 0 => FnD.zero hm F.kp rfl (F.binds (ps := ["formula"]) fun _ _ _ _ _ _ us hl => match us, hl with | [_], _ => rfl)
  | k + 1 => by
    have ih := mk_tree_rows (P := P) (w := w) (base := base) F hm G h_plain_row h_joined k
    exact ⟨f, fd, ["formula"], [], [], hm, F.kp, fn_body (N := N_tree_rows) (ps := ["formula"]) (k := 40 + k) F ⟨rfl, rfl, rfl, by decide +kernel, rfl, by decide +kernel, by decide +kernel⟩ (fun X e1 e2 e3 e4 e5 c hx => by subst e1 e2 e3 e4 e5; exact ok_tree_rows (Nat.le_add_right _ _) _ c G h_plain_row h_joined ih), F.binds (ps := ["formula"]) fun _ _ _ _ _ _ us hl => match us, hl with | [_], _ => rfl, .nil, fun _ _ => rfl⟩
/-! ### x_joined -/
abbrev s_x_joined : Stmt := top 11
def N_x_joined : List Str := ["_law_first", "_law_second", "_law_both"]
abbrev sc_x_joined : Scope := defScope s_x_joined
theorem nl_x_joined_0 : NL N_x_joined sc_x_joined 0 "_law_first" := ⟨rfl, by decide +kernel, by decide +kernel, by decide +kernel⟩
theorem nl_x_joined_1 : NL N_x_joined sc_x_joined 1 "_law_second" := ⟨rfl, by decide +kernel, by decide +kernel, by decide +kernel⟩
theorem nl_x_joined_2 : NL N_x_joined sc_x_joined 2 "_law_both" := ⟨rfl, by decide +kernel, by decide +kernel, by decide +kernel⟩
noncomputable def B_x_joined : SM := seqS (asgF 2 (andV (binF inD (binF ixD (varF 0) (unF negD (cstF (.int 1)))) (cstF (.str "0123456789"))) (binF inD (binF ixD (varF 1) (cstF (.int 0))) (cstF (.str "0123456789"))))) (retF (binF addD (binF addD (varF 0) (iteF (tstF (varF 2)) (tupF [cstF (.str "enter")]) (tupF []))) (varF 1)))
noncomputable abbrev F_x_joined : List D → M D := defF 3 B_x_joined
theorem ok_x_joined {X : Cx} (c : CxD X N_x_joined sc_x_joined none 0) (G : Gs X.K X.mg) : DSs X W0 B_x_joined (defBody s_x_joined) := DSs_cons (c.set nl_x_joined_2 (.inl (by decide +kernel)) (DE_and (DE_cmp (OpD_in c.hu5) (DE_ix (c.var nl_x_joined_0) (DE_un UnD_neg (DE_int))) (DE_str)) (DE_one (DE_cmp (OpD_in c.hu5) (DE_ix (c.var nl_x_joined_1) (DE_int)) (DE_str))))) (DSs_one (DS_ret (DE_bin OpD_add (DE_bin OpD_add (c.var nl_x_joined_0) (DE_ite (DT_val (c.var nl_x_joined_2)) (DE_tup (DA_cons (DE_str) (DA_nil))) (DE_tup (DA_nil)))) (c.var nl_x_joined_1))))
theorem mk_x_joined {P : Program} {w : World} {K : PySem.W.Frag} {mg : Str → Option Value} {base : Heap} {f : Addr} {fd : FuncData} (F : Fun K "_law_joined" "_law_joined" s_x_joined f fd) (hm : mg "_law_joined" = some (.ref f)) (G : Gs K mg) : FnD P w K mg base CX0 1 "_law_joined" 2 [] F_x_joined := by
  have b3 := F.binds (ps := ["_law_first", "_law_second"]) fun _ _ _ _ _ _ us hl => match us, hl with | [_, _], _ => rfl
  exact ⟨f, fd, ["_law_first", "_law_second"], [], [], hm, F.kp, (fn_body (N := N_x_joined) (ps := ["_law_first", "_law_second"]) (k := 0) F ⟨rfl, rfl, rfl, by decide +kernel, rfl, by decide +kernel, by decide +kernel⟩ (fun X e1 e2 e3 e4 e5 c hx => by subst e1 e2 e3 e4 e5; exact ok_x_joined c G)), b3, .nil, fun _ _ => rfl⟩
/-! ### x_trees -/
abbrev s_x_trees : Stmt := top 12
def N_x_trees : List Str := ["_law_formula_here", "_law_found", "_law_ones", "_law_others", "_law_first", "_law_second", "_law_row", "_law_sign"]
abbrev sc_x_trees : Scope := defScope s_x_trees
def usc_x_trees_1 : Scope := ⟨.function, [(".0", .local), ("_law_sign", .local)], false, false, []⟩
abbrev sc_x_trees_1 : Scope := relS usc_x_trees_1 sc_x_trees
def usc_x_trees_2 : Scope := ⟨.function, [(".0", .local), ("_law_row", .local)], false, false, []⟩
abbrev sc_x_trees_2 : Scope := relS usc_x_trees_2 sc_x_trees
theorem nl_x_trees_0 : NL N_x_trees sc_x_trees 0 "_law_formula_here" := ⟨rfl, by decide +kernel, by decide +kernel, by decide +kernel⟩
theorem ng_x_trees_isinstance : NG sc_x_trees "isinstance" := ⟨by decide +kernel, by decide +kernel, by decide +kernel⟩
theorem ng_x_trees_tuple : NG sc_x_trees "tuple" := ⟨by decide +kernel, by decide +kernel, by decide +kernel⟩
theorem ng_x_trees_str : NG sc_x_trees "str" := ⟨by decide +kernel, by decide +kernel, by decide +kernel⟩
theorem nl_x_trees_1_7 : NL N_x_trees sc_x_trees_1 7 "_law_sign" := ⟨rfl, by decide +kernel, by decide +kernel, by decide +kernel⟩
theorem ok_sc_x_trees_1 : BlkOk N_x_trees sc_x_trees usc_x_trees_1 [("_law_sign", 7)] := ⟨rfl, by decide +kernel, by decide +kernel, by decide +kernel, by decide +kernel⟩
theorem ng_x_trees_x_trees : NG sc_x_trees "_law_trees" := ⟨by decide +kernel, by decide +kernel, by decide +kernel⟩
theorem nl_x_trees_2_6 : NL N_x_trees sc_x_trees_2 6 "_law_row" := ⟨rfl, by decide +kernel, by decide +kernel, by decide +kernel⟩
theorem ok_sc_x_trees_2 : BlkOk N_x_trees sc_x_trees usc_x_trees_2 [("_law_row", 6)] := ⟨rfl, by decide +kernel, by decide +kernel, by decide +kernel, by decide +kernel⟩
theorem nl_x_trees_1 : NL N_x_trees sc_x_trees 1 "_law_found" := ⟨rfl, by decide +kernel, by decide +kernel, by decide +kernel⟩
theorem nl_x_trees_2 : NL N_x_trees sc_x_trees 2 "_law_ones" := ⟨rfl, by decide +kernel, by decide +kernel, by decide +kernel⟩
theorem nl_x_trees_3 : NL N_x_trees sc_x_trees 3 "_law_others" := ⟨rfl, by decide +kernel, by decide +kernel, by decide +kernel⟩
theorem nl_x_trees_4 : NL N_x_trees sc_x_trees 4 "_law_first" := ⟨rfl, by decide +kernel, by decide +kernel, by decide +kernel⟩
theorem nl_x_trees_5 : NL N_x_trees sc_x_trees 5 "_law_second" := ⟨rfl, by decide +kernel, by decide +kernel, by decide +kernel⟩
theorem ng_x_trees_x_joined : NG sc_x_trees "_law_joined" := ⟨by decide +kernel, by decide +kernel, by decide +kernel⟩
theorem ng_x_trees_sorted : NG sc_x_trees "sorted" := ⟨by decide +kernel, by decide +kernel, by decide +kernel⟩
theorem ng_x_trees_set : NG sc_x_trees "set" := ⟨by decide +kernel, by decide +kernel, by decide +kernel⟩
noncomputable def E_x_trees_1 (self : List D → M D) : DL.Frame → M D := varF 7
noncomputable def E_x_trees_2 (self : List D → M D) : DL.Frame → M D := binF addD (varF 6) (tupF [cstF (.str "neg")])
noncomputable def L_x_trees_2 (self : List D → M D) : SM := seqS (exprF (metF "list" appD (varF 1) [binF addD (calF (fun xs => F_x_joined (xs ++ [])) [varF 4, varF 5]) (tupF [binF ixD (varF 0) (cstF (.int 0))])])) (exprF (metF "list" appD (varF 1) [binF addD (binF addD (calF (fun xs => F_x_joined (xs ++ [])) [varF 5, varF 4]) (iteF (tbF (binF eqD (binF ixD (varF 0) (cstF (.int 0))) (cstF (.str "-")))) (tupF [cstF (.str "swap")]) (tupF []))) (tupF [binF ixD (varF 0) (cstF (.int 0))])]))
noncomputable def L_x_trees_1 (self : List D → M D) : SM := forF (itF (varF 3)) (tgName 5) (L_x_trees_2 self)
noncomputable def B_x_trees (self : List D → M D) : SM := seqS (ifS (notF (tstF (unF (isiD "tuple") (varF 0)))) (retF (lstF [calF tupleD [cmpD [7] (itS (calF strD [varF 0])) (tgName 7) (yesF) (E_x_trees_1 self)]])) (nxF)) (seqS (ifS (tbF (binF eqD (binF ixD (varF 0) (cstF (.int 0))) (cstF (.str "neg")))) (retF (cmpD [6] (itF (calF (fun xs => self (xs ++ [])) [binF ixD (varF 0) (cstF (.int 1))])) (tgName 6) (yesF) (E_x_trees_2 self))) (nxF)) (seqS (asgF 1 (lstO [])) (seqS (parF [2, 3] [calF (fun xs => self (xs ++ [])) [binF ixD (varF 0) (cstF (.int 1))], calF (fun xs => self (xs ++ [])) [binF ixD (varF 0) (cstF (.int 2))]]) (seqS (forF (itF (varF 2)) (tgName 4) (L_x_trees_1 self)) (retF (calF ssetT [varF 1]))))))
noncomputable def F_x_trees : Nat → List D → M D
  | 0 => fun _ => bad
  | k + 1 => defF 8 (B_x_trees (F_x_trees k))
theorem ok_x_trees {X : Cx} {k : Nat} (hk : 1 ≤ k) (self : List D → M D) (c : CxD X N_x_trees sc_x_trees none k) (G : Gs X.K X.mg) (h_x_joined : FnD X.prog X.w X.K X.mg X.base CX0 1 "_law_joined" 2 [] F_x_joined) (h_self : FnD X.prog X.w X.K X.mg X.base CX0 k "_law_trees" 1 [] self) : DSs X W0 (B_x_trees self) (defBody s_x_trees) := DSs_cons (DS_if (DT_not (DT_val (c.isi ng_x_trees_isinstance ng_x_trees_tuple G.b_isinstance G.b_tuple (c.var nl_x_trees_0) bt_tuple))) (DSs_one (DS_ret (DE_lst (DA_cons (c.typ ng_x_trees_tuple G.b_tuple bt_tuple C_tuple (DA_cons (c.cmp [("_law_sign", 7)] (DI_str (c.typ ng_x_trees_str G.b_str bt_str C_str (DA_cons (c.var nl_x_trees_0) (DA_nil)))) ok_sc_x_trees_1 (fun _ _ _ _ _ c1 => ⟨c1.tgt nl_x_trees_1_7 (.inl (by decide +kernel)), DTs_nil, c1.var nl_x_trees_1_7⟩) (by decide)) (DA_nil))) (DA_nil))))) (DSs_nil)) (DSs_cons (DS_if (DT_cmp (OpD_eq c.hu) (DE_ix (c.var nl_x_trees_0) (DE_int)) (DE_str)) (DSs_one (DS_ret (c.cmp [("_law_row", 6)] (DI_seq (c.call0 ng_x_trees_x_trees h_self (Nat.le_refl _) rfl (DA_cons (DE_ix (c.var nl_x_trees_0) (DE_int)) (DA_nil)))) ok_sc_x_trees_2 (fun _ _ _ _ _ c2 => ⟨c2.tgt nl_x_trees_2_6 (.inl (by decide +kernel)), DTs_nil, DE_bin OpD_add (c2.var nl_x_trees_2_6) (DE_tup (DA_cons (DE_str) (DA_nil)))⟩) (by decide)))) (DSs_nil)) (DSs_cons (c.set nl_x_trees_1 (.inl (by decide +kernel)) (DE_lstO (DA_nil))) (DSs_cons (c.par nl_x_trees_2 nl_x_trees_3 (by decide +kernel) (by decide +kernel) (DA_cons (c.call0 ng_x_trees_x_trees h_self (Nat.le_refl _) rfl (DA_cons (DE_ix (c.var nl_x_trees_0) (DE_int)) (DA_nil))) (DA_cons (c.call0 ng_x_trees_x_trees h_self (Nat.le_refl _) rfl (DA_cons (DE_ix (c.var nl_x_trees_0) (DE_int)) (DA_nil))) (DA_nil))) (by rintro ⟨⟩ h; cases h; rfl)) (DSs_cons (c.for_ (DI_seq (c.var nl_x_trees_2)) (c.tgt nl_x_trees_4 (.inl (by decide +kernel))) (DSs_one (c.for_ (DI_seq (c.var nl_x_trees_3)) (c.tgt nl_x_trees_5 (.inl (by decide +kernel))) (DSs_cons (DS_expr (DE_append (c.var nl_x_trees_1) (DA_cons (DE_bin OpD_add (c.call0 ng_x_trees_x_joined h_x_joined (Nat.le_trans (by decide) hk) rfl (DA_cons (c.var nl_x_trees_4) (DA_cons (c.var nl_x_trees_5) (DA_nil)))) (DE_tup (DA_cons (DE_ix (c.var nl_x_trees_0) (DE_int)) (DA_nil)))) (DA_nil)))) (DSs_one (DS_expr (DE_append (c.var nl_x_trees_1) (DA_cons (DE_bin OpD_add (DE_bin OpD_add (c.call0 ng_x_trees_x_joined h_x_joined (Nat.le_trans (by decide) hk) rfl (DA_cons (c.var nl_x_trees_5) (DA_cons (c.var nl_x_trees_4) (DA_nil)))) (DE_ite (DT_cmp (OpD_eq c.hu) (DE_ix (c.var nl_x_trees_0) (DE_int)) (DE_str)) (DE_tup (DA_cons (DE_str) (DA_nil))) (DE_tup (DA_nil)))) (DE_tup (DA_cons (DE_ix (c.var nl_x_trees_0) (DE_int)) (DA_nil)))) (DA_nil))))))))) (DSs_one (DS_ret (c.ssetT c.hu ng_x_trees_sorted G.b_sorted ng_x_trees_set G.b_set (DA_cons (c.var nl_x_trees_1) (DA_nil)))))))))
theorem mk_x_trees {P : Program} {w : World} {K : PySem.W.Frag} {mg : Str → Option Value} {base : Heap} {f : Addr} {fd : FuncData} (F : Fun K "_law_trees" "_law_trees" s_x_trees f fd) (hm : mg "_law_trees" = some (.ref f)) (G : Gs K mg) (h_x_joined : FnD P w K mg base CX0 1 "_law_joined" 2 [] F_x_joined) : ∀ n : Nat, FnD P w K mg base CX0 (1 + n) "_law_trees" 1 [] (F_x_trees n)
  | 0 => FnD.zero hm F.kp rfl (F.binds (ps := ["_law_formula_here"]) fun _ _ _ _ _ _ us hl => match us, hl with | [_], _ => rfl)
  | k + 1 => by
    have ih := mk_x_trees (P := P) (w := w) (base := base) F hm G h_x_joined k
    exact ⟨f, fd, ["_law_formula_here"], [], [], hm, F.kp, fn_body (N := N_x_trees) (ps := ["_law_formula_here"]) (k := 1 + k) F ⟨rfl, rfl, rfl, by decide +kernel, rfl, by decide +kernel, by decide +kernel⟩ (fun X e1 e2 e3 e4 e5 c hx => by subst e1 e2 e3 e4 e5; exact ok_x_trees (Nat.le_add_right _ _) _ c G h_x_joined ih), F.binds (ps := ["_law_formula_here"]) fun _ _ _ _ _ _ us hl => match us, hl with | [_], _ => rfl, .nil, fun _ _ => rfl⟩
/-! ### law -/
abbrev s_law : Stmt := top 13
def N_law : List Str := ["_law_script", "_law_deck_here", "_law_turn", "_law_formula_here", "_law_found"]
abbrev sc_law : Scope := defScope s_law
theorem nl_law_0 : NL N_law sc_law 0 "_law_script" := ⟨rfl, by decide +kernel, by decide +kernel, by decide +kernel⟩
theorem ng_law_x_deck : NG sc_law "_law_deck" := ⟨by decide +kernel, by decide +kernel, by decide +kernel⟩
theorem nl_law_1 : NL N_law sc_law 1 "_law_deck_here" := ⟨rfl, by decide +kernel, by decide +kernel, by decide +kernel⟩
theorem ng_law_range : NG sc_law "range" := ⟨by decide +kernel, by decide +kernel, by decide +kernel⟩
theorem nl_law_2 : NL N_law sc_law 2 "_law_turn" := ⟨rfl, by decide +kernel, by decide +kernel, by decide +kernel⟩
theorem ng_law_x_draw : NG sc_law "_law_draw" := ⟨by decide +kernel, by decide +kernel, by decide +kernel⟩
theorem ng_law_x_formula : NG sc_law "_law_formula" := ⟨by decide +kernel, by decide +kernel, by decide +kernel⟩
theorem nl_law_3 : NL N_law sc_law 3 "_law_formula_here" := ⟨rfl, by decide +kernel, by decide +kernel, by decide +kernel⟩
theorem ng_law_tree_rows : NG sc_law "tree_rows" := ⟨by decide +kernel, by decide +kernel, by decide +kernel⟩
theorem nl_law_4 : NL N_law sc_law 4 "_law_found" := ⟨rfl, by decide +kernel, by decide +kernel, by decide +kernel⟩
theorem ng_law_repr : NG sc_law "repr" := ⟨by decide +kernel, by decide +kernel, by decide +kernel⟩
theorem ng_law_x_trees : NG sc_law "_law_trees" := ⟨by decide +kernel, by decide +kernel, by decide +kernel⟩
theorem ng_law_sorted : NG sc_law "sorted" := ⟨by decide +kernel, by decide +kernel, by decide +kernel⟩
theorem ng_law_tuple : NG sc_law "tuple" := ⟨by decide +kernel, by decide +kernel, by decide +kernel⟩
theorem ng_law_plain_row : NG sc_law "plain_row" := ⟨by decide +kernel, by decide +kernel, by decide +kernel⟩
noncomputable def L_law_1 : SM := seqS (asgF 3 (calF (fun xs => F_x_formula 20 (xs ++ [])) [varF 1, calF (fun xs => F_x_draw (xs ++ [])) [varF 1, cstF (.int 7)]])) (seqS (asgF 4 (calF (fun xs => F_tree_rows 20 (xs ++ [])) [varF 3])) (seqS (ifS (orF (tbF (binF neD (calF reprD [varF 4]) (calF reprD [calF tupleD [calF sortedX [calF (fun xs => F_x_trees 20 (xs ++ [])) [varF 3]]]]))) (tbF (binF notInD (calF (fun xs => F_plain_row 20 (xs ++ [])) [varF 3]) (varF 4)))) (retF (cstF (.bl false))) (nxF)) (ifS (tbF (binF neD (calF reprD [calF (fun xs => F_tree_rows 20 (xs ++ [])) [varF 3]]) (calF reprD [varF 4]))) (retF (cstF (.bl false))) (nxF))))
noncomputable def B_law : SM := seqS (asgF 1 (calF (fun xs => F_x_deck (xs ++ [])) [varF 0])) (seqS (forF (rngF rng1 [cstF (.int 6)]) (tgName 2) (L_law_1)) (retF (cstF (.bl true))))
noncomputable abbrev F_law : List D → M D := defF 5 B_law
theorem ok_law {X : Cx} (c : CxD X N_law sc_law none 60) (G : Gs X.K X.mg) (hg : X.A.guards = some []) (h_x_deck : FnD X.prog X.w X.K X.mg X.base CX0 1 "_law_deck" 1 [] F_x_deck) (h_x_formula : FnD X.prog X.w X.K X.mg X.base CX0 22 "_law_formula" 2 [] (F_x_formula 20)) (h_x_draw : FnD X.prog X.w X.K X.mg X.base CX0 1 "_law_draw" 2 [] F_x_draw) (h_tree_rows : FnD X.prog X.w X.K X.mg X.base CX0 60 "tree_rows" 1 [] (F_tree_rows 20)) (h_x_trees : FnD X.prog X.w X.K X.mg X.base CX0 21 "_law_trees" 1 [] (F_x_trees 20)) (h_plain_row : FnD X.prog X.w X.K X.mg X.base CX0 40 "plain_row" 1 [] (F_plain_row 20)) : DSs X W0 B_law (defBody s_law) := DSs_cons (c.set nl_law_1 (.inl (by decide +kernel)) (c.call0 ng_law_x_deck h_x_deck (by decide) rfl (DA_cons (c.var nl_law_0) (DA_nil)))) (DSs_cons (c.for_ (c.rng1 ng_law_range G.b_range (DA_cons (DE_int) (DA_nil))) (c.tgt nl_law_2 (.inl (by decide +kernel))) (DSs_cons (c.set nl_law_3 (.inl (by decide +kernel)) (c.call0 ng_law_x_formula h_x_formula (by decide) rfl (DA_cons (c.var nl_law_1) (DA_cons (c.call0 ng_law_x_draw h_x_draw (by decide) rfl (DA_cons (c.var nl_law_1) (DA_cons (DE_int) (DA_nil)))) (DA_nil))))) (DSs_cons (c.set nl_law_4 (.inl (by decide +kernel)) (c.call0 ng_law_tree_rows h_tree_rows (by decide) rfl (DA_cons (c.var nl_law_3) (DA_nil)))) (DSs_cons (DS_if (DW.pt (DW_or (DT_cmp (OpD_ne c.hu) (c.blt ng_law_repr G.b_repr bt_repr (C_repr hg c.hu) (DA_cons (c.var nl_law_4) (DA_nil))) (c.blt ng_law_repr G.b_repr bt_repr (C_repr hg c.hu) (DA_cons (c.typ ng_law_tuple G.b_tuple bt_tuple C_tuple (DA_cons (c.blt ng_law_sorted G.b_sorted bt_sorted (C_sortedX c.hu) (DA_cons (c.call0 ng_law_x_trees h_x_trees (by decide) rfl (DA_cons (c.var nl_law_3) (DA_nil))) (DA_nil))) (DA_nil))) (DA_nil)))) (DW_or1 (DT_cmp (OpD_notin c.hu5) (c.call0 ng_law_plain_row h_plain_row (by decide) rfl (DA_cons (c.var nl_law_3) (DA_nil))) (c.var nl_law_4))))) (DSs_one (DS_ret (DE_bl))) (DSs_nil)) (DSs_one (DS_if (DT_cmp (OpD_ne c.hu) (c.blt ng_law_repr G.b_repr bt_repr (C_repr hg c.hu) (DA_cons (c.call0 ng_law_tree_rows h_tree_rows (by decide) rfl (DA_cons (c.var nl_law_3) (DA_nil))) (DA_nil))) (c.blt ng_law_repr G.b_repr bt_repr (C_repr hg c.hu) (DA_cons (c.var nl_law_4) (DA_nil)))) (DSs_one (DS_ret (DE_bl))) (DSs_nil))))))) (DSs_one (DS_ret (DE_bl))))
/-! ### what the top has written -/
theorem all_mk {P : Program} {w : World} {K : PySem.W.Frag} {h : Heap} {mg : Str → Option Value} {fa : Addr} {f0 f1 f2 f3 f4 f5 f6 f7 f8 f9 f10 : Addr} {oc0 kV0 dc0 pm0 cd0 ct0 oc1 kV1 dc1 pm1 cd1 ct1 oc2 kV2 dc2 pm2 cd2 ct2 oc3 kV3 dc3 pm3 cd3 ct3 oc4 kV4 dc4 pm4 cd4 ct4 oc5 kV5 dc5 pm5 cd5 ct5 oc6 kV6 dc6 pm6 cd6 ct6 oc7 kV7 dc7 pm7 cd7 ct7 oc8 kV8 dc8 pm8 cd8 ct8 oc9 kV9 dc9 pm9 cd9 ct9 oc10 kV10 dc10 pm10 cd10 ct10 : Value} {od0 an0 od1 an1 od2 an2 od3 an3 od4 an4 od5 an5 od6 an6 od7 an7 od8 an8 od9 an9 od10 an10 : Option Addr} {sl0 sl1 sl2 sl3 sl4 sl5 sl6 sl7 sl8 sl9 sl10 : Array (Option Value)} {t_DIGITS : Tok} (Y : K.In h) (Z : h.Ns mainGlobals mg) (hfa : mg "law" = some (.ref fa))
    (a0 : PySem.W.nsIn K mainGlobals "_law_deck" = some (some (.ref f0)))
    (l0 : K.lookup f0 = some ⟨oc0, od0, .func (PySem.W.fnOf "_law_deck" "_law_deck" (defArgs s_x_deck) (defBody s_x_deck) (defScope s_x_deck) .none kV0 dc0 pm0 an0 cd0 ct0), sl0⟩)
    (c0 : PySem.W.codeIn K cd0 "_law_deck" = true)
    (k0 : PySem.W.keepIn K (.ref f0) = true)
    (a1 : PySem.W.nsIn K mainGlobals "_law_draw" = some (some (.ref f1)))
    (l1 : K.lookup f1 = some ⟨oc1, od1, .func (PySem.W.fnOf "_law_draw" "_law_draw" (defArgs s_x_draw) (defBody s_x_draw) (defScope s_x_draw) .none kV1 dc1 pm1 an1 cd1 ct1), sl1⟩)
    (c1 : PySem.W.codeIn K cd1 "_law_draw" = true)
    (k1 : PySem.W.keepIn K (.ref f1) = true)
    (a2 : PySem.W.nsIn K mainGlobals "_law_one" = some (some (.ref f2)))
    (l2 : K.lookup f2 = some ⟨oc2, od2, .func (PySem.W.fnOf "_law_one" "_law_one" (defArgs s_x_one) (defBody s_x_one) (defScope s_x_one) .none kV2 dc2 pm2 an2 cd2 ct2), sl2⟩)
    (c2 : PySem.W.codeIn K cd2 "_law_one" = true)
    (k2 : PySem.W.keepIn K (.ref f2) = true)
    (a3 : PySem.W.nsIn K mainGlobals "_law_formula" = some (some (.ref f3)))
    (l3 : K.lookup f3 = some ⟨oc3, od3, .func (PySem.W.fnOf "_law_formula" "_law_formula" (defArgs s_x_formula) (defBody s_x_formula) (defScope s_x_formula) .none kV3 dc3 pm3 an3 cd3 ct3), sl3⟩)
    (c3 : PySem.W.codeIn K cd3 "_law_formula" = true)
    (k3 : PySem.W.keepIn K (.ref f3) = true)
    (a4 : PySem.W.nsIn K mainGlobals "needs" = some (some (.ref f4)))
    (l4 : K.lookup f4 = some ⟨oc4, od4, .func (PySem.W.fnOf "needs" "needs" (defArgs s_needs) (defBody s_needs) (defScope s_needs) .none kV4 dc4 pm4 an4 cd4 ct4), sl4⟩)
    (c4 : PySem.W.codeIn K cd4 "needs" = true)
    (k4 : PySem.W.keepIn K (.ref f4) = true)
    (a5 : PySem.W.nsIn K mainGlobals "joined" = some (some (.ref f5)))
    (l5 : K.lookup f5 = some ⟨oc5, od5, .func (PySem.W.fnOf "joined" "joined" (defArgs s_joined) (defBody s_joined) (defScope s_joined) .none kV5 dc5 pm5 an5 cd5 ct5), sl5⟩)
    (c5 : PySem.W.codeIn K cd5 "joined" = true)
    (k5 : PySem.W.keepIn K (.ref f5) = true)
    (a6 : PySem.W.nsIn K mainGlobals "plain_row" = some (some (.ref f6)))
    (l6 : K.lookup f6 = some ⟨oc6, od6, .func (PySem.W.fnOf "plain_row" "plain_row" (defArgs s_plain_row) (defBody s_plain_row) (defScope s_plain_row) .none kV6 dc6 pm6 an6 cd6 ct6), sl6⟩)
    (c6 : PySem.W.codeIn K cd6 "plain_row" = true)
    (k6 : PySem.W.keepIn K (.ref f6) = true)
    (a7 : PySem.W.nsIn K mainGlobals "tree_rows" = some (some (.ref f7)))
    (l7 : K.lookup f7 = some ⟨oc7, od7, .func (PySem.W.fnOf "tree_rows" "tree_rows" (defArgs s_tree_rows) (defBody s_tree_rows) (defScope s_tree_rows) .none kV7 dc7 pm7 an7 cd7 ct7), sl7⟩)
    (c7 : PySem.W.codeIn K cd7 "tree_rows" = true)
    (k7 : PySem.W.keepIn K (.ref f7) = true)
    (a8 : PySem.W.nsIn K mainGlobals "_law_joined" = some (some (.ref f8)))
    (l8 : K.lookup f8 = some ⟨oc8, od8, .func (PySem.W.fnOf "_law_joined" "_law_joined" (defArgs s_x_joined) (defBody s_x_joined) (defScope s_x_joined) .none kV8 dc8 pm8 an8 cd8 ct8), sl8⟩)
    (c8 : PySem.W.codeIn K cd8 "_law_joined" = true)
    (k8 : PySem.W.keepIn K (.ref f8) = true)
    (a9 : PySem.W.nsIn K mainGlobals "_law_trees" = some (some (.ref f9)))
    (l9 : K.lookup f9 = some ⟨oc9, od9, .func (PySem.W.fnOf "_law_trees" "_law_trees" (defArgs s_x_trees) (defBody s_x_trees) (defScope s_x_trees) .none kV9 dc9 pm9 an9 cd9 ct9), sl9⟩)
    (c9 : PySem.W.codeIn K cd9 "_law_trees" = true)
    (k9 : PySem.W.keepIn K (.ref f9) = true)
    (a10 : PySem.W.nsIn K mainGlobals "law" = some (some (.ref f10)))
    (l10 : K.lookup f10 = some ⟨oc10, od10, .func (PySem.W.fnOf "law" "law" (defArgs s_law) (defBody s_law) (defScope s_law) .none kV10 dc10 pm10 an10 cd10 ct10), sl10⟩)
    (c10 : PySem.W.codeIn K cd10 "law" = true)
    (k10 : PySem.W.keepIn K (.ref f10) = true)
    (b_abs : PySem.W.nsIn K mainGlobals "abs" = some none)
    (b_int : PySem.W.nsIn K mainGlobals "int" = some none)
    (b_isinstance : PySem.W.nsIn K mainGlobals "isinstance" = some none)
    (b_len : PySem.W.nsIn K mainGlobals "len" = some none)
    (b_max : PySem.W.nsIn K mainGlobals "max" = some none)
    (b_range : PySem.W.nsIn K mainGlobals "range" = some none)
    (b_repr : PySem.W.nsIn K mainGlobals "repr" = some none)
    (b_set : PySem.W.nsIn K mainGlobals "set" = some none)
    (b_sorted : PySem.W.nsIn K mainGlobals "sorted" = some none)
    (b_str : PySem.W.nsIn K mainGlobals "str" = some none)
    (b_tuple : PySem.W.nsIn K mainGlobals "tuple" = some none)
    (c_DIGITS : PySem.W.nsIn K mainGlobals "DIGITS" = some (some (.str "0123456789" t_DIGITS)))
    (holds : ∀ ns : List Int, ns.length ≤ 63 → ∃ S, F_law [.lst (ns.map .int)] [] = .ok (.bl true) S) : LawRun P w K mg fa := by
  have e := hfa.symm.trans (PySem.W.mg_of Y Z a10)
  cases e
  have G : Gs K mg := ⟨PySem.W.mg_none_of Y Z b_abs, PySem.W.mg_none_of Y Z b_int, PySem.W.mg_none_of Y Z b_isinstance, PySem.W.mg_none_of Y Z b_len, PySem.W.mg_none_of Y Z b_max, PySem.W.mg_none_of Y Z b_range, PySem.W.mg_none_of Y Z b_repr, PySem.W.mg_none_of Y Z b_set, PySem.W.mg_none_of Y Z b_sorted, PySem.W.mg_none_of Y Z b_str, PySem.W.mg_none_of Y Z b_tuple, ⟨_, PySem.W.mg_of Y Z c_DIGITS⟩⟩
  refine law_of (N := N_law) (p := "_law_script") (k := 60) (B := B_law) (fun_mk (st := s_law) l10 c10 k10) ⟨rfl, rfl, rfl, by decide +kernel, rfl, by decide +kernel, by decide +kernel⟩ ((fun_mk (st := s_law) l10 c10 k10).binds fun _ _ _ _ _ _ us hl => match us, hl with | [_], _ => rfl) ⟨rfl, by decide, by decide⟩ (fun base X kb gb e1 e2 e3 e4 e5 c hx hg => ?_) holds
  have h_x_deck := mk_x_deck (P := P) (w := w) (base := base) (fun_mk (st := s_x_deck) l0 c0 k0) (PySem.W.mg_of Y Z a0) G
  have h_x_draw := mk_x_draw (P := P) (w := w) (base := base) (fun_mk (st := s_x_draw) l1 c1 k1) (PySem.W.mg_of Y Z a1) G
  have h_x_one := mk_x_one (P := P) (w := w) (base := base) (fun_mk (st := s_x_one) l2 c2 k2) (PySem.W.mg_of Y Z a2) G h_x_draw
  have h_x_formula := mk_x_formula (P := P) (w := w) (base := base) (fun_mk (st := s_x_formula) l3 c3 k3) (PySem.W.mg_of Y Z a3) G h_x_draw h_x_one 20
  have h_needs := mk_needs (P := P) (w := w) (base := base) (fun_mk (st := s_needs) l4 c4 k4) (PySem.W.mg_of Y Z a4) G 20
  have h_joined := mk_joined (P := P) (w := w) (base := base) (fun_mk (st := s_joined) l5 c5 k5) (PySem.W.mg_of Y Z a5) G
  have h_plain_row := mk_plain_row (P := P) (w := w) (base := base) (fun_mk (st := s_plain_row) l6 c6 k6) (PySem.W.mg_of Y Z a6) G h_needs h_joined 20
  have h_tree_rows := mk_tree_rows (P := P) (w := w) (base := base) (fun_mk (st := s_tree_rows) l7 c7 k7) (PySem.W.mg_of Y Z a7) G h_plain_row h_joined 20
  have h_x_joined := mk_x_joined (P := P) (w := w) (base := base) (fun_mk (st := s_x_joined) l8 c8 k8) (PySem.W.mg_of Y Z a8) G
  have h_x_trees := mk_x_trees (P := P) (w := w) (base := base) (fun_mk (st := s_x_trees) l9 c9 k9) (PySem.W.mg_of Y Z a9) G h_x_joined 20
  subst e1 e2 e3 e4 e5
  exact ok_law c G hg h_x_deck h_x_formula h_x_draw h_tree_rows h_x_trees h_plain_row
end K47
namespace DL.Tr
open PySem PySem.Spec PyProof.Rows L2 DL
/-! ### rows operand by operand, by the program -/
noncomputable def E_tree_rows_1 (self : List D → M D) : DL.Frame → M D := binF addD (varF 4) (tupF [cstF (.str "neg")])
noncomputable def L_tree_rows_2 (jo self : List D → M D) : SM := seqS (asgG (tgDic (varF 1) (binF addD (calF (fun xs => jo (xs ++ [])) [varF 2, varF 3]) (sliF sliD (varF 0) none (some (cstF (.int 1)))))) (cstF (.bl true))) (asgG (tgDic (varF 1) (binF addD (calF (fun xs => jo (xs ++ [])) [varF 3, varF 2]) (iteF (tbF (binF eqD (binF ixD (varF 0) (cstF (.int 0))) (cstF (.str "-")))) (tupF [cstF (.str "swap"), cstF (.str "-")]) (sliF sliD (varF 0) none (some (cstF (.int 1))))))) (cstF (.bl true)))
noncomputable def L_tree_rows_1 (jo self : List D → M D) : SM := forF (itF (calF (fun xs => self (xs ++ [])) [binF ixD (varF 0) (cstF (.int 2))])) (tgName 3) (L_tree_rows_2 jo self)
noncomputable def B_tree_rows (pl jo self : List D → M D) : SM := seqS (ifS (notF (tstF (unF (isiD "tuple") (varF 0)))) (retF (tupF [calF (fun xs => pl (xs ++ [])) [varF 0]])) (nxF)) (seqS (ifS (tbF (binF eqD (binF ixD (varF 0) (cstF (.int 0))) (cstF (.str "neg")))) (retF (calF tupleD [calF sortedX [cmpD [4] (itF (calF (fun xs => self (xs ++ [])) [binF ixD (varF 0) (cstF (.int 1))])) (tgName 4) (yesF) (E_tree_rows_1 self)]])) (nxF)) (seqS (asgF 1 (dctT)) (seqS (forF (itF (calF (fun xs => self (xs ++ [])) [binF ixD (varF 0) (cstF (.int 1))])) (tgName 2) (L_tree_rows_1 jo self)) (retF (calF tupleD [calF sortedT [varF 1]])))))
noncomputable def F_tree_rows (pl jo : List D → M D) : Nat → List D → M D
  | 0 => fun _ => bad
  | k + 1 => defF 5 (B_tree_rows pl jo (F_tree_rows pl jo k))
noncomputable def L_depth_1 : SM := seqS (ifS (tbF (binF eqD (varF 4) (cstF (.str "enter")))) (augF 1 iaddD (cstF (.int 1))) (ifS (tbF (binF inD (varF 4) (tupF [cstF (.str "+"), cstF (.str "-"), cstF (.str "*")]))) (augF 1 isubD (cstF (.int 1))) (ifS (orF (tbF (binF inD (varF 4) (cstF (.str "abcd")))) (orF (tbF (binF inD (varF 4) (tupF [cstF (.str "last"), cstF (.str "get")]))) (andF (tbF (binF inD (varF 4) (cstF (.str "0123456789")))) (tbF (binF notInD (varF 3) (cstF (.str "0123456789"))))))) (augF 1 iaddD (calF intD [binF notInD (varF 3) (tupF [cstF (.str "enter"), cstF (.str "clear")])])) (nxF)))) (seqS (asgF 2 (calF max2D [varF 2, varF 1])) (asgF 3 (varF 4)))
noncomputable def B_depth : SM := seqS (asgG (tgTup [tgName 1, tgName 2, tgName 3]) (tupF [cstF (.int 0), cstF (.int 0), cstF (.str "neg")])) (seqS (forF (itF (varF 0)) (tgName 4) (L_depth_1)) (retF (varF 2)))
noncomputable abbrev F_depth : List D → M D := defF 5 B_depth
local macro_rules | `(tactic| and_intros) => `(tactic| repeat (first | with_reducible refine StpA.go ?_ | with_reducible refine StpB.go ?_ | ((with_reducible refine Ok.var ?_); refine ⟨_, rfl, ?_⟩) | ((with_reducible refine Fr.go ?_); intro fr_ e_; simp only [List.set_cons_zero, List.set_cons_succ, setAll, wipeF] at e_; subst e_) | ((with_reducible refine Ok.tgT ?_ ?_); (exact rfl)) | ((with_reducible refine Ok.tgQt ?_ ?_); (exact rfl)) | ((with_reducible refine Ok.tgQl ?_ ?_); (exact rfl)) | with_reducible refine Ok.tupP ?_ | with_reducible refine Ok.tupleP ?_ | ((with_reducible refine Ok.isi_ptu (p := true) ?_ ?_); decide +kernel) | ((with_reducible refine Ok.isi_ptu (p := false) ?_ ?_); decide +kernel) | with_reducible refine ItQ.ptu ?_ | with_reducible refine SrcQ.ptu ?_ | with_reducible refine Ok.len_p ?_ | with_reducible refine Ok.sli_tail ?_ | ((with_reducible refine OkS.aug ?_); refine ⟨_, rfl, ?_⟩) | ((with_reducible refine Ok.ix_t ?_); refine ⟨_, rfl, ?_⟩) | ((with_reducible refine Ok.ix_l ?_); refine ⟨_, rfl, ?_⟩) | ((with_reducible refine Ok.tgT ?_ ?_); exact rfl) | with_reducible refine Ok.sli_t ?_ | with_reducible refine Ok.sli_l ?_ | ((with_reducible refine Ok.mod_ii ?_ ?_); (first | decide | (simp; done) | (simp; omega))) | ((with_reducible refine Ok.add_tt ?_ ?_); (first | decide | (simp; done) | (simp; omega))) | ((with_reducible refine Ok.add_ll ?_ ?_); (first | decide | (simp; done) | (simp; omega))) | ((with_reducible refine Ok.add_ss ?_ ?_); (first | decide | (simp; done) | (simp; omega))) | ((with_reducible refine Ok.rng1 ?_ ?_); (first | decide | omega | (simp; omega))) | ((with_reducible refine Br.dt ?_ ?_); (first | assumption | exact rfl | omega | decide +kernel)) | ((with_reducible refine Br.df ?_ ?_); (first | assumption | omega | decide +kernel)) | ((with_reducible refine Br.tt ?_ ?_); (first | assumption | decide +kernel)) | ((with_reducible refine Br.ff ?_ ?_); (first | assumption | decide +kernel)) | ((with_reducible refine Ok.isi_tup (p := true) ?_ ?_); decide +kernel) | ((with_reducible refine Ok.isi_tup (p := false) ?_ ?_); decide +kernel) | ((with_reducible refine Ok.isi_int (p := true) ?_ ?_); decide +kernel) | ((with_reducible refine Ok.isi_int (p := false) ?_ ?_); decide +kernel) | ((with_reducible refine Ok.isi_str (p := true) ?_ ?_); decide +kernel) | ((with_reducible refine Ok.isi_str (p := false) ?_ ?_); decide +kernel) | ((with_reducible refine Ok.isi_lst (p := true) ?_ ?_); decide +kernel) | ((with_reducible refine Ok.isi_lst (p := false) ?_ ?_); decide +kernel) | ((with_reducible refine Ok.isi_bl (p := true) ?_ ?_); decide +kernel) | ((with_reducible refine Ok.isi_bl (p := false) ?_ ?_); decide +kernel) | ((with_reducible refine Ok.isi_non (p := true) ?_ ?_); decide +kernel) | ((with_reducible refine Ok.isi_non (p := false) ?_ ?_); decide +kernel) | ((with_reducible refine Ok.isi_ctu (p := true) ?_ ?_); decide +kernel) | ((with_reducible refine Ok.isi_ctu (p := false) ?_ ?_); decide +kernel) | ((with_reducible refine Ok.isi_emp (p := true) ?_ ?_); decide +kernel) | ((with_reducible refine Ok.isi_emp (p := false) ?_ ?_); decide +kernel)))
/-! the rows, in plain Lean -/
def rv (op : Str) : List Ky := if op = "-" then [.swap, .minus] else [Lf.ksign op]
def leR (a b : List Ky) : Bool := leX (rowD a) (rowD b)
def ins (R : List (List Ky)) (r : List Ky) : List (List Ky) := if r ∈ R then R else R ++ [r]
def pair (op : Str) (a : List Ky) (R : List (List Ky)) (b : List Ky) : List (List Ky) := ins (ins R (Lf.kjoin a b ++ [Lf.ksign op])) (Lf.kjoin b a ++ rv op)
def tl : Fm → List (List Ky)
  | .num n => [Lf.kdig n]
  | .lett s => [[Lf.klett s]]
  | .neg f => ((tl f).map (· ++ [.neg])).mergeSort leR
  | .bin op f g => ((tl f).foldl (fun R a => (tl g).foldl (pair op a) R) []).mergeSort leR
/-- a row that works a formula out, and how deep it is -/
inductive Tr : Fm → List Ky → Int → Prop
  | num (n : Nat) : Tr (.num n) (Lf.kdig n) 1
  | lett (s : Str) : Tr (.lett s) [Lf.klett s] 1
  | neg {f : Fm} {r : List Ky} {d : Int} : Tr f r d → Tr (.neg f) (r ++ [.neg]) d
  | one {op : Str} {f g : Fm} {a b : List Ky} {d e : Int} : Tr f a d → Tr g b e → Tr (.bin op f g) (Lf.kjoin a b ++ [Lf.ksign op]) (max d (1 + e))
  | two {op : Str} {f g : Fm} {a b : List Ky} {d e : Int} : Tr f a d → Tr g b e → Tr (.bin op f g) (Lf.kjoin b a ++ rv op) (max e (1 + d))
theorem mem_ins {R : List (List Ky)} {r x : List Ky} : x ∈ ins R r ↔ x ∈ R ∨ x = r := by
  unfold ins
  split
  · rename_i h
    constructor
    · exact .inl
    · rintro (h2 | rfl)
      · exact h2
      · exact h
  · simp
theorem mem_pair {op : Str} {a b : List Ky} {R : List (List Ky)} {x : List Ky} : x ∈ pair op a R b ↔ x ∈ R ∨ x = Lf.kjoin a b ++ [Lf.ksign op] ∨ x = Lf.kjoin b a ++ rv op := by
  unfold pair
  rw [mem_ins, mem_ins, or_assoc]
theorem mem_in {op : Str} {a x : List Ky} : ∀ {B R : List (List Ky)}, x ∈ B.foldl (pair op a) R ↔ x ∈ R ∨ ∃ b ∈ B, x = Lf.kjoin a b ++ [Lf.ksign op] ∨ x = Lf.kjoin b a ++ rv op
  | [], R => by simp
  | b :: B, R => by
    rw [List.foldl_cons, mem_in, mem_pair]
    simp only [List.mem_cons, exists_eq_or_imp, or_assoc]
theorem mem_out {op : Str} {x : List Ky} {B : List (List Ky)} : ∀ {A R : List (List Ky)}, x ∈ A.foldl (fun R a => B.foldl (pair op a) R) R ↔ x ∈ R ∨ ∃ a ∈ A, ∃ b ∈ B, x = Lf.kjoin a b ++ [Lf.ksign op] ∨ x = Lf.kjoin b a ++ rv op
  | [], R => by simp
  | a :: A, R => by
    rw [List.foldl_cons, mem_out, mem_in]
    simp only [List.mem_cons, exists_eq_or_imp, or_assoc]
theorem mem_tl : ∀ {f : Fm} {x : List Ky}, x ∈ tl f ↔ ∃ d, Tr f x d
  | .num n, x => by
    unfold tl
    rw [List.mem_singleton]
    constructor
    · rintro rfl; exact ⟨_, .num n⟩
    · rintro ⟨d, h⟩; cases h; rfl
  | .lett s, x => by
    unfold tl
    rw [List.mem_singleton]
    constructor
    · rintro rfl; exact ⟨_, .lett s⟩
    · rintro ⟨d, h⟩; cases h; rfl
  | .neg f, x => by
    unfold tl
    rw [List.mem_mergeSort, List.mem_map]
    constructor
    · rintro ⟨r, hr, rfl⟩
      obtain ⟨d, h⟩ := mem_tl.mp hr
      exact ⟨d, .neg h⟩
    · rintro ⟨d, h⟩
      cases h with
      | neg h => exact ⟨_, mem_tl.mpr ⟨_, h⟩, rfl⟩
  | .bin op f g, x => by
    unfold tl
    rw [List.mem_mergeSort, mem_out]
    constructor
    · rintro (h | ⟨a, ha, b, hb, e⟩)
      · exact nomatch h
      · obtain ⟨d, h1⟩ := mem_tl.mp ha
        obtain ⟨e', h2⟩ := mem_tl.mp hb
        rcases e with rfl | rfl
        · exact ⟨_, .one h1 h2⟩
        · exact ⟨_, .two h1 h2⟩
    · rintro ⟨d, h⟩
      cases h with
      | one h1 h2 => exact .inr ⟨_, mem_tl.mpr ⟨_, h1⟩, _, mem_tl.mpr ⟨_, h2⟩, .inl rfl⟩
      | two h1 h2 => exact .inr ⟨_, mem_tl.mpr ⟨_, h1⟩, _, mem_tl.mpr ⟨_, h2⟩, .inr rfl⟩
theorem ins_len (R : List (List Ky)) (r : List Ky) : (ins R r).length ≤ R.length + 1 := by
  unfold ins; split <;> simp
theorem pair_len (op : Str) (a b : List Ky) (R : List (List Ky)) : (pair op a R b).length ≤ R.length + 2 := by
  have h1 := ins_len R (Lf.kjoin a b ++ [Lf.ksign op])
  have h2 := ins_len (ins R (Lf.kjoin a b ++ [Lf.ksign op])) (Lf.kjoin b a ++ rv op)
  unfold pair
  omega
theorem in_len (op : Str) (a : List Ky) : ∀ (B R : List (List Ky)), (B.foldl (pair op a) R).length ≤ R.length + 2 * B.length
  | [], R => by simp
  | b :: B, R => by
    have h1 := in_len op a B (pair op a R b)
    have h2 := pair_len op a b R
    rw [List.foldl_cons, List.length_cons]
    omega
theorem out_len (op : Str) (B : List (List Ky)) : ∀ (A R : List (List Ky)), (A.foldl (fun R a => B.foldl (pair op a) R) R).length ≤ R.length + 2 * (A.length * B.length)
  | [], R => by simp
  | a :: A, R => by
    have h1 := out_len op B A (B.foldl (pair op a) R)
    have h2 := in_len op a B R
    rw [List.foldl_cons, List.length_cons, Nat.add_mul]
    omega
theorem tl_len : ∀ f : Fm, (tl f).length ≤ 2 ^ f.ops
  | .num n => Nat.le_refl 1
  | .lett s => Nat.le_refl 1
  | .neg f => by
    have := tl_len f
    unfold tl
    rw [List.length_mergeSort, List.length_map, Fm.ops, Nat.pow_succ]
    omega
  | .bin op f g => by
    have h1 := tl_len f
    have h2 := tl_len g
    have h3 := out_len op (tl g) (tl f) []
    have h4 := Nat.mul_le_mul h1 h2
    unfold tl
    rw [List.length_mergeSort, Fm.ops, Nat.pow_succ, Nat.pow_add]
    simp only [List.length_nil, Nat.zero_add] at h3
    omega
/-! their lengths -/
theorem tr_ne : ∀ {f : Fm} {r : List Ky} {d : Int}, Tr f r d → r ≠ []
  | _, _, _, .num n => Lf.kdig_ne n
  | _, _, _, .lett s => by simp
  | _, _, _, .neg h => by simp
  | _, _, _, .one h1 h2 => by simp
  | _, _, _, .two h1 h2 => by
    have : ∀ op, rv op ≠ [] := fun op => by unfold rv; split <;> simp
    intro h
    exact this _ (List.append_eq_nil_iff.mp h).2
theorem kjoin_len (a b : List Ky) : (Lf.kjoin a b).length ≤ a.length + b.length + 1 := by
  unfold Lf.kjoin
  split <;> simp <;> omega
theorem rv_len (op : Str) : (rv op).length ≤ 2 := by unfold rv; split <;> simp
theorem tr_len : ∀ {f : Fm} {r : List Ky} {d : Int}, Tr f r d → r.length ≤ 5 * f.ops + 2
  | _, _, _, .num n => by unfold Lf.kdig; split <;> simp
  | _, _, _, .lett s => by simp
  | _, _, _, .neg h => by
    have := tr_len h
    simp only [List.length_append, List.length_cons, List.length_nil, Fm.ops]
    omega
  | _, _, _, .one (a := a) (b := b) h1 h2 => by
    have := tr_len h1
    have := tr_len h2
    have := kjoin_len a b
    simp only [List.length_append, List.length_cons, List.length_nil, Fm.ops]
    omega
  | _, _, _, .two (op := op) (a := a) (b := b) h1 h2 => by
    have := tr_len h1
    have := tr_len h2
    have := kjoin_len b a
    have := rv_len op
    simp only [List.length_append, Fm.ops]
    omega
/-! the dict of rows -/
def tk (r : List Ky) : List Key := r.map fun k => Sum.inr k.s
def tbR (R : List (List Ky)) : List (List Key × D) := R.map fun r => (tk r, .bl true)
theorem tk_inj : ∀ {a b : List Ky}, tk a = tk b ↔ a = b
  | [], [] => by simp [tk]
  | [], _ :: _ => by simp [tk]
  | _ :: _, [] => by simp [tk]
  | x :: a, y :: b => by
    have ih := tk_inj (a := a) (b := b)
    unfold tk at ih ⊢
    simp only [List.map_cons, List.cons.injEq, Sum.inr.injEq, ih]
    constructor
    · rintro ⟨h1, h2⟩; exact ⟨Ky.inj_all x x.mem y y.mem h1, h2⟩
    · rintro ⟨rfl, rfl⟩; exact ⟨rfl, rfl⟩
theorem keysL_row (r : List Ky) : keysL ((r.map Ky.s).map .str) = some (tk r) := by
  induction r with
  | nil => rfl
  | cons k r ih =>
    simp only [List.map_cons, keysL, keyD, ih]
    rfl
theorem put_tbR (R : List (List Ky)) (r : List Ky) : putKD (tbR R) (tk r) (.bl true) = tbR (ins R r) := by
  have h1 : ((tbR R).any fun kv => decide (kv.1 = tk r)) = decide (r ∈ R) := by
    unfold tbR
    induction R with
    | nil => simp
    | cons x R ih =>
      rw [List.map_cons, List.any_cons, ih]
      have e : decide (tk x = tk r) = decide (r = x) := decide_eq_decide.mpr (by rw [tk_inj]; exact eq_comm)
      rw [e]
      simp
  unfold putKD ins
  rw [h1]
  by_cases c : r ∈ R
  · rw [if_pos (by simpa using c), if_pos c]
    unfold tbR
    rw [List.map_map]
    apply List.map_congr_left
    intro x _
    show (if tk x = tk r then (tk x, D.bl true) else (tk x, D.bl true)) = _
    split <;> rfl
  · rw [if_neg (by simpa using c), if_neg c]
    unfold tbR
    rw [List.map_append]
    rfl
theorem keysT_tbR (R : List (List Ky)) : keysT (tbR R) = R.map rowD := by
  unfold keysT tbR rowD
  rw [List.map_map]
  apply List.map_congr_left
  intro r _
  simp only [Function.comp, tk, List.map_map]
  rfl
/-! rows can be sorted -/
theorem pys_strs : ∀ l : List Str, pys (l.map .str) = some (l.map .str)
  | [] => rfl
  | a :: l => by simp only [List.map_cons, pys, py, pys_strs l]
theorem py_row (r : List Ky) : py (rowD r) = some (.tuple ((r.map Ky.s).map .str)) := by
  unfold rowD
  show (pys _).map PyData.tuple = _
  rw [pys_strs]
  rfl
theorem pys_rows : ∀ R : List (List Ky), pys (R.map rowD) = some (R.map fun r => .tuple ((r.map Ky.s).map .str))
  | [] => rfl
  | r :: R => by simp only [List.map_cons, pys, py_row, pys_rows R]
theorem alike_strs : ∀ a b : List Str, PySem.W.alikeAll (a.map .str) (b.map .str) = true
  | [], b => by simp [PySem.W.alikeAll]
  | _ :: _, [] => by simp [PySem.W.alikeAll]
  | x :: a, y :: b => by simp [PySem.W.alikeAll, PySem.W.alike, alike_strs a b]
theorem depth_strs : ∀ l : List Str, PyData.depthAll (l.map .str) = 0
  | [] => by simp [PyData.depthAll]
  | a :: l => by simp [PyData.depthAll, PyData.depth, depth_strs l]
theorem depth_rows : ∀ R : List (List Ky), PyData.depthAll (R.map fun r => PyData.tuple ((r.map Ky.s).map .str)) ≤ 1
  | [] => by simp [PyData.depthAll]
  | r :: R => by
    have := depth_rows R
    rw [List.map_cons, PyData.depthAll]
    simp only [PyData.depth, depth_strs]
    omega
theorem sortOk_rows {R : List (List Ky)} (hl : R.length ≤ 1000000) (h : ∀ r ∈ R, r ≠ []) : sortOk (R.map fun r => PyData.tuple ((r.map Ky.s).map .str)) := by
  refine ⟨?_, .inl ?_, Nat.le_trans (depth_rows R) (by decide), by rw [List.length_map]; exact hl⟩
  · rw [List.all_eq_true]
    intro a ha
    rw [List.all_eq_true]
    intro b hb
    obtain ⟨x, _, rfl⟩ := List.mem_map.mp ha
    obtain ⟨y, _, rfl⟩ := List.mem_map.mp hb
    show PySem.W.alike (.tuple _) (.tuple _) = true
    rw [PySem.W.alike]
    exact alike_strs _ _
  · rw [List.all_eq_true]
    intro a ha
    obtain ⟨x, hx, rfl⟩ := List.mem_map.mp ha
    cases x with
    | nil => exact absurd rfl (h _ hx)
    | cons k r => rfl
theorem sort_rows (R : List (List Ky)) : (R.map rowD).mergeSort leX = (R.mergeSort leR).map rowD := (List.map_mergeSort (r := leR) (s := leX) (f := rowD) (fun a _ b _ => rfl)).symm
section
variable {S S0 : Store} {QD : D → Store → Prop} {QS : Fl → DL.Frame → Store → Prop} {n m : Nat} {R : List (List Ky)} {r : List Ky}
theorem dct_ {fr : DL.Frame} (h : QD (.ob S.length) (S ++ [some (.dt [])])) : Ok (DL.dctT fr S) QD := h
theorem srt_rows (hl : R.length ≤ 1000000) (hn : ∀ r ∈ R, r ≠ []) (h : QD (.lst ((R.mergeSort leR).map rowD)) S) : Ok (sortedX [.lst (R.map rowD)] S) QD := by
  refine Ok.of (v := .lst ((R.mergeSort leR).map rowD)) (S1 := S) ?_ h
  unfold sortedX
  show (match pys (R.map rowD) with | some ps => if sortOk ps then (DL.R.ok (.lst ((R.map rowD).mergeSort leX)) S : DL.R D) else .bad | none => .bad) = _
  rw [pys_rows]
  show (if sortOk _ then _ else _) = _
  rw [if_pos (sortOk_rows hl hn), sort_rows]
theorem srt_dict (e : S[n]? = some (some (.dt (tbR R)))) (hl : R.length ≤ 1000000) (hn : ∀ r ∈ R, r ≠ []) (h : QD (.lst ((R.mergeSort leR).map rowD)) S) : Ok (sortedT [.ob n] S) QD := by
  refine Ok.of (v := .lst ((R.mergeSort leR).map rowD)) (S1 := S) ?_ h
  unfold sortedT
  have e1 : oDtL S[n]? = some (tbR R) := by rw [e]; rfl
  simp only [e1, keysT_tbR, pys_rows]
  rw [if_pos (sortOk_rows hl hn), sort_rows]
theorem set_row {QU : Unit → Store → Prop} (e : S[n]? = some (some (.dt (tbR R)))) (hl : R.length < 100000) (h : QU () (S.set n (some (.dt (tbR (ins R r)))))) : Ok (dstD (.ob n) (rowD r) (.bl true) S) QU := by
  refine Ok.of (v := ()) (S1 := S.set n (some (.dt (tbR (ins R r))))) ?_ h
  unfold dstD rowD
  simp only [e, keysL_row, put_tbR]
  exact if_pos (by unfold tbR; rw [List.length_map]; exact hl)
theorem add_rr {r r2 : List Ky} (hl : r.length + r2.length ≤ 1000) (h : QD (rowD (r ++ r2)) S) : Ok (addD (rowD r) (rowD r2) S) QD := by
  unfold rowD at h ⊢
  refine Ok.add_tt (by simp; omega) ?_
  rw [List.map_append, List.map_append] at h
  exact h
theorem neg_it {self : List D → M D} {v0 v1 v2 v3 v4 : Option D} : ∀ (L : List (List Ky)), (∀ r ∈ L, r.length ≤ 900) → Ok (itL (tgName 4) yesF (E_tree_rows_1 self) [v0, v1, v2, v3, v4] (L.map rowD) S) fun ys S' => ys = (L.map (· ++ [Ky.neg])).map rowD ∧ S' = S
  | [], _ => ⟨rfl, rfl⟩
  | r :: L, hr => by
    rw [List.map_cons]
    refine Ok.icons ?_
    unfold E_tree_rows_1
    and_intros
    refine add_rr (r := r) (r2 := [Ky.neg]) (by have := hr r (List.mem_cons_self ..); simp; omega) ?_
    refine (neg_it (self := self) L (fun x hx => hr x (List.mem_cons_of_mem _ hx))).imp ?_
    rintro ys S' ⟨rfl, rfl⟩
    exact ⟨rfl, rfl⟩
end
/-- what the rows' parts do -/
structure Pt (pl jo : List D → M D) : Prop where
  pl : ∀ (f : Fm) (S : Store), f.ok → f.ops < 20 → pl [f.d] S = .ok (rowD (Lf.krow f)) S
  jo : ∀ (a b : List Str) (S : Store), a ≠ [] → b ≠ [] → a.length + b.length ≤ 1000 → jo [.tup (a.map .str), .tup (b.map .str)] S = .ok (.tup ((joinL a b).map .str)) S
section
variable {pl jo : List D → M D}
theorem Pt.row (P : Pt pl jo) {a b : List Ky} (ha : a ≠ []) (hb : b ≠ []) (hl : a.length + b.length ≤ 1000) (S : Store) : jo [rowD a, rowD b] S = .ok (rowD (Lf.kjoin a b)) S := by
  have := P.jo (a.map Ky.s) (b.map Ky.s) S (by simpa using ha) (by simpa using hb) (by simpa using hl)
  rw [Lf.kjoin_s ha hb] at this
  exact this
theorem in_loop (P : Pt pl jo) {self : List D → M D} {op : Str} {fd gd : D} {a : List Ky} {n : Nat} {S0 : Store} {v4 : Option D} {QS : Fl → DL.Frame → Store → Prop} (ho : op ∈ OPS) (ha : a ≠ [] ∧ a.length ≤ 100) (hn : S0.length ≤ n) :
    ∀ (B : List (List Ky)) {R : List (List Ky)} {S : Store} {v3 : Option D}, (∀ b ∈ B, b ≠ [] ∧ b.length ≤ 100) → R.length + 2 * B.length ≤ 10000 → S[n]? = some (some (.dt (tbR R))) → Ext S0 S →
    (∀ v3 S', S'[n]? = some (some (.dt (tbR (B.foldl (pair op a) R)))) → Ext S0 S' → QS .nx [some (.tup [.str op, fd, gd]), some (.ob n), some (rowD a), v3, v4] S') →
    OkS (loopL (tgName 3) (L_tree_rows_2 jo self) (B.map rowD) [some (.tup [.str op, fd, gd]), some (.ob n), some (rowD a), v3, v4] S) QS
  | [], R, S, v3, hB, hR, e, ex, h => OkS.lnil (h v3 S e ex)
  | b :: B, R, S, v3, hB, hR, e, ex, h => by
    have hb := hB b (List.mem_cons_self ..)
    have k1 := kjoin_len a b
    have k2 := kjoin_len b a
    have k3 := rv_len op
    have i1 := ins_len R (Lf.kjoin a b ++ [Lf.ksign op])
    have i2 := pair_len op a b R
    have es : D.tup (DL.cutD [.str op, fd, gd] none (some 1)) = rowD [Lf.ksign op] := by
      unfold rowD
      rw [List.map_cons, Lf.ksign_s op ho]
      rfl
    rw [List.length_cons] at hR
    rw [List.map_cons]
    refine OkS.lcons ?_
    unfold L_tree_rows_2
    and_intros
    refine Ok.of (P.row ha.1 hb.1 (by omega) S) ?_
    and_intros
    rw [es]
    refine add_rr (by simp; omega) ?_
    refine set_row e (by omega) ?_
    have hl : n < S.length := (List.getElem?_eq_some_iff.mp e).1
    have e2 : (S.set n (some (.dt (tbR (ins R (Lf.kjoin a b ++ [Lf.ksign op]))))))[n]? = some (some (.dt (tbR (ins R (Lf.kjoin a b ++ [Lf.ksign op]))))) := List.getElem?_set_self hl
    have ex2 := Ext.set (o := some (.dt (tbR (ins R (Lf.kjoin a b ++ [Lf.ksign op]))))) ex hn
    generalize S.set n (some (.dt (tbR (ins R (Lf.kjoin a b ++ [Lf.ksign op]))))) = S2 at e2 ex2
    and_intros
    refine Ok.of (P.row hb.1 ha.1 (by omega) S2) ?_
    and_intros
    have fin : ∀ x, x = rowD (rv op) → Ok (addD (rowD (Lf.kjoin b a)) x S2) fun i S3 => Ok (dstD (.ob n) i (.bl true) S3) fun _ S4 => OkS (loopL (tgName 3) (L_tree_rows_2 jo self) (B.map rowD) [some (.tup [.str op, fd, gd]), some (.ob n), some (rowD a), some (rowD b), v4] S4) QS := by
      rintro x rfl
      refine add_rr (by omega) ?_
      refine set_row e2 (by omega) ?_
      have hl2 : n < S2.length := (List.getElem?_eq_some_iff.mp e2).1
      refine in_loop P ho ha hn B (fun b hb => hB b (List.mem_cons_of_mem _ hb)) (R := pair op a R b) (by omega) ?_ (Ext.set ex2 hn) h
      exact List.getElem?_set_self hl2
    refine Br.spd (fun c => ?_) (fun c => ?_)
    · and_intros
      refine (fin _ ?_).imp fun i S3 q => q.imp fun _ S4 q => q
      unfold rv
      rw [if_pos c]
      rfl
    · and_intros
      rw [es]
      refine (fin _ ?_).imp fun i S3 q => q.imp fun _ S4 q => q
      unfold rv
      rw [if_neg c]
theorem out_loop (P : Pt pl jo) {self : List D → M D} {op : Str} {fd : D} {g : Fm} {n : Nat} {S0 : Store} {v4 : Option D} {QS : Fl → DL.Frame → Store → Prop} (ho : op ∈ OPS) (hn : S0.length ≤ n)
    (hg : ∀ S, Ok (self [g.d] S) fun d S' => d = .tup ((tl g).map rowD) ∧ Ext S S') (hB : ∀ b ∈ tl g, b ≠ [] ∧ b.length ≤ 100) :
    ∀ (A : List (List Ky)) {R : List (List Ky)} {S : Store} {v2 v3 : Option D}, (∀ b ∈ A, b ≠ [] ∧ b.length ≤ 100) → R.length + 2 * (A.length * (tl g).length) ≤ 10000 → S[n]? = some (some (.dt (tbR R))) → Ext S0 S →
    (∀ v2 v3 S', S'[n]? = some (some (.dt (tbR (A.foldl (fun R a => (tl g).foldl (pair op a) R) R)))) → Ext S0 S' → QS .nx [some (.tup [.str op, fd, g.d]), some (.ob n), v2, v3, v4] S') →
    OkS (loopL (tgName 2) (L_tree_rows_1 jo self) (A.map rowD) [some (.tup [.str op, fd, g.d]), some (.ob n), v2, v3, v4] S) QS
  | [], R, S, v2, v3, hA, hR, e, ex, h => OkS.lnil (h v2 v3 S e ex)
  | a :: A, R, S, v2, v3, hA, hR, e, ex, h => by
    have ha := hA a (List.mem_cons_self ..)
    have i2 := in_len op a (tl g) R
    rw [List.length_cons, Nat.add_mul] at hR
    rw [List.map_cons]
    refine OkS.lcons ?_
    unfold L_tree_rows_1
    and_intros
    refine (hg S).imp ?_
    rintro d S2 ⟨rfl, ex2⟩
    and_intros
    refine in_loop P ho ha hn (tl g) hB (R := R) (by omega) (ex2.get e) (ex.trans ex2) fun v3 S3 e3 ex3 => ?_
    exact out_loop P ho hn hg hB A (fun b hb => hA b (List.mem_cons_of_mem _ hb)) (by omega) e3 ex3 h
theorem tree_ok (P : Pt pl jo) : ∀ (f : Fm) (k : Nat) {S : Store}, f.ok → f.ops < k → f.ops ≤ 6 → Ok (F_tree_rows pl jo k [f.d] S) fun d S' => d = .tup ((tl f).map rowD) ∧ Ext S S'
  | _, 0, _, _, h, _ => absurd h (Nat.not_lt_zero _)
  | .num i, k + 1, S, ok, _, _ => by
    unfold F_tree_rows
    have := P.pl (.num i) S ok (by simp [Fm.ops])
    revert this
    simp only [Fm.d]
    generalize hz : ((i : Nat) : Int) = z
    intro this
    with_reducible refine Ok.def_ ?_
    simp only [frame0, List.map_cons, List.map_nil, List.length_cons, List.length_nil, Nat.reduceAdd, Nat.reduceSub, Nat.zero_add, List.reduceReplicate, List.cons_append, List.nil_append]
    unfold B_tree_rows
    and_intros
    refine Ok.of this ?_
    exact ⟨rfl, Ext.refl⟩
  | .lett s, k + 1, S, ok, _, _ => by
    unfold F_tree_rows
    have := P.pl (.lett s) S ok (by simp [Fm.ops])
    revert this
    simp only [Fm.d]
    intro this
    with_reducible refine Ok.def_ ?_
    simp only [frame0, List.map_cons, List.map_nil, List.length_cons, List.length_nil, Nat.reduceAdd, Nat.reduceSub, Nat.zero_add, List.reduceReplicate, List.cons_append, List.nil_append]
    unfold B_tree_rows
    and_intros
    refine Ok.of this ?_
    exact ⟨rfl, Ext.refl⟩
  | .neg f, k + 1, S, ok, h, h2 => by
    simp only [Fm.ops] at h h2
    unfold F_tree_rows
    simp only [Fm.d]
    with_reducible refine Ok.def_ ?_
    simp only [frame0, List.map_cons, List.map_nil, List.length_cons, List.length_nil, Nat.reduceAdd, Nat.reduceSub, Nat.zero_add, List.reduceReplicate, List.cons_append, List.nil_append]
    unfold B_tree_rows
    and_intros
    refine (tree_ok P f k ok (by omega) (by omega)).imp ?_
    rintro d S1 ⟨rfl, ex⟩
    have hl := tl_len f
    have h6 : 2 ^ f.ops ≤ 2 ^ 6 := Nat.pow_le_pow_right (by decide) (by omega)
    and_intros
    refine ⟨by simp; omega, ?_⟩
    with_reducible refine Fr.go ?_
    intro fr_ e_
    simp only [List.set_cons_zero, List.set_cons_succ, setAll, wipeF] at e_
    subst e_
    refine (neg_it (tl f) fun r hr => ?_).imp ?_
    · obtain ⟨d, h⟩ := mem_tl.mp hr
      have := tr_len h
      omega
    rintro ys S2 ⟨rfl, rfl⟩
    and_intros
    refine srt_rows (by simp; omega) (fun r hr => ?_) ?_
    · obtain ⟨x, _, rfl⟩ := List.mem_map.mp hr
      simp
    and_intros
    exact ⟨rfl, ex⟩
  | .bin op f g, k + 1, S, ok, h, h2 => by
    simp only [Fm.ops] at h h2
    have hneg := ops_neg op ok.1
    unfold F_tree_rows
    simp only [Fm.d]
    have l1 := tl_len f
    have l2 := tl_len g
    have p6 : 2 ^ f.ops * 2 ^ g.ops ≤ 2 ^ 6 := by rw [← Nat.pow_add]; exact Nat.pow_le_pow_right (by decide) (by omega)
    have l3 := Nat.mul_le_mul l1 l2
    have l4 := out_len op (tl g) (tl f) []
    rw [List.length_nil, Nat.zero_add] at l4
    have short : ∀ {f : Fm}, f.ops ≤ 6 → ∀ b ∈ tl f, b ≠ [] ∧ b.length ≤ 100 := fun {f} h b hb => by
      obtain ⟨d, h⟩ := mem_tl.mp hb
      have := tr_len h
      exact ⟨tr_ne h, by omega⟩
    with_reducible refine Ok.def_ ?_
    simp only [frame0, List.map_cons, List.map_nil, List.length_cons, List.length_nil, Nat.reduceAdd, Nat.reduceSub, Nat.zero_add, List.reduceReplicate, List.cons_append, List.nil_append]
    unfold B_tree_rows
    and_intros
    refine dct_ ?_
    have e0 : (S ++ [some (O.dt (tbR []))])[S.length]? = some (some (.dt (tbR []))) := by rw [List.getElem?_append_right (Nat.le_refl _)]; simp
    have ex0 : Ext S (S ++ [some (O.dt (tbR []))]) := Ext.app
    rw [show (S ++ [some (O.dt [])]) = S ++ [some (O.dt (tbR []))] from rfl]
    generalize S ++ [some (O.dt (tbR []))] = S1 at e0 ex0
    and_intros
    refine (tree_ok P f k ok.2.1 (by omega) (by omega)).imp ?_
    rintro d S2 ⟨rfl, ex2⟩
    and_intros
    refine out_loop P ok.1 (Nat.le_refl _) (fun S => tree_ok P g k ok.2.2 (by omega) (by omega)) (short (by omega)) (tl f) (short (by omega)) (by rw [List.length_nil]; omega) (ex2.get e0) (ex0.trans ex2) fun v2 v3 S3 e3 ex3 => ?_
    and_intros
    refine srt_dict e3 (by omega) (fun r hr => ?_) ?_
    · rcases mem_out.mp hr with h | ⟨a, _, b, _, e | e⟩
      · exact nomatch h
      · rw [e]; simp
      · rw [e]
        intro z
        have := (List.append_eq_nil_iff.mp z).2
        unfold rv at this
        split at this <;> cases this
    and_intros
    exact ⟨rfl, ex3⟩
end
end DL.Tr
namespace DL.Tr
open PySem PySem.Spec PyProof.Rows L2 DL
local macro_rules | `(tactic| and_intros) => `(tactic| repeat (first | with_reducible refine StpA.go ?_ | with_reducible refine StpB.go ?_ | ((with_reducible refine Ok.var ?_); refine ⟨_, rfl, ?_⟩) | ((with_reducible refine Fr.go ?_); intro fr_ e_; simp only [List.set_cons_zero, List.set_cons_succ, setAll, wipeF] at e_; subst e_) | ((with_reducible refine Ok.tgT ?_ ?_); (exact rfl)) | ((with_reducible refine Ok.tgQt ?_ ?_); (exact rfl)) | ((with_reducible refine Ok.tgQl ?_ ?_); (exact rfl)) | with_reducible refine Ok.tupP ?_ | with_reducible refine Ok.tupleP ?_ | ((with_reducible refine Ok.isi_ptu (p := true) ?_ ?_); decide +kernel) | ((with_reducible refine Ok.isi_ptu (p := false) ?_ ?_); decide +kernel) | with_reducible refine ItQ.ptu ?_ | with_reducible refine SrcQ.ptu ?_ | with_reducible refine Ok.len_p ?_ | with_reducible refine Ok.sli_tail ?_ | ((with_reducible refine OkS.aug ?_); refine ⟨_, rfl, ?_⟩) | ((with_reducible refine Ok.ix_t ?_); refine ⟨_, rfl, ?_⟩) | ((with_reducible refine Ok.ix_l ?_); refine ⟨_, rfl, ?_⟩) | ((with_reducible refine Ok.tgT ?_ ?_); exact rfl) | with_reducible refine Ok.sli_t ?_ | with_reducible refine Ok.sli_l ?_ | ((with_reducible refine Ok.mod_ii ?_ ?_); (first | decide | (simp; done) | (simp; omega))) | ((with_reducible refine Ok.add_tt ?_ ?_); (first | decide | (simp; done) | (simp; omega))) | ((with_reducible refine Ok.add_ll ?_ ?_); (first | decide | (simp; done) | (simp; omega))) | ((with_reducible refine Ok.add_ss ?_ ?_); (first | decide | (simp; done) | (simp; omega))) | ((with_reducible refine Ok.rng1 ?_ ?_); (first | decide | omega | (simp; omega))) | ((with_reducible refine Br.dt ?_ ?_); (first | assumption | exact rfl | omega | decide +kernel)) | ((with_reducible refine Br.df ?_ ?_); (first | assumption | omega | decide +kernel)) | ((with_reducible refine Br.tt ?_ ?_); (first | assumption | decide +kernel)) | ((with_reducible refine Br.ff ?_ ?_); (first | assumption | decide +kernel)) | ((with_reducible refine Ok.isi_tup (p := true) ?_ ?_); decide +kernel) | ((with_reducible refine Ok.isi_tup (p := false) ?_ ?_); decide +kernel) | ((with_reducible refine Ok.isi_int (p := true) ?_ ?_); decide +kernel) | ((with_reducible refine Ok.isi_int (p := false) ?_ ?_); decide +kernel) | ((with_reducible refine Ok.isi_str (p := true) ?_ ?_); decide +kernel) | ((with_reducible refine Ok.isi_str (p := false) ?_ ?_); decide +kernel) | ((with_reducible refine Ok.isi_lst (p := true) ?_ ?_); decide +kernel) | ((with_reducible refine Ok.isi_lst (p := false) ?_ ?_); decide +kernel) | ((with_reducible refine Ok.isi_bl (p := true) ?_ ?_); decide +kernel) | ((with_reducible refine Ok.isi_bl (p := false) ?_ ?_); decide +kernel) | ((with_reducible refine Ok.isi_non (p := true) ?_ ?_); decide +kernel) | ((with_reducible refine Ok.isi_non (p := false) ?_ ?_); decide +kernel) | ((with_reducible refine Ok.isi_ctu (p := true) ?_ ?_); decide +kernel) | ((with_reducible refine Ok.isi_ctu (p := false) ?_ ?_); decide +kernel) | ((with_reducible refine Ok.isi_emp (p := true) ?_ ?_); decide +kernel) | ((with_reducible refine Ok.isi_emp (p := false) ?_ ?_); decide +kernel)))
/-! ### how deep rows are -/
def isEC : Ky → Bool
  | .enter => true
  | .clear => true
  | _ => false
def isSg : Ky → Bool
  | .plus => true
  | .minus => true
  | .times => true
  | _ => false
def isLt : Ky → Bool
  | .lett _ => true
  | _ => false
def isLG : Ky → Bool
  | .last => true
  | .get => true
  | _ => false
def pend (p : Int) (ah k : Ky) : Int := if k = .enter then p + 1 else if isSg k = true then p - 1 else if (isLt k || isLG k || (Lf.isDg k && !Lf.isDg ah)) = true then p + (if isEC ah = true then 0 else 1) else p
def mx (m p : Int) : Int := if p > m then p else m
def dstp (s : Int × Int × Ky) (k : Ky) : Int × Int × Ky := (pend s.1 s.2.2 k, mx s.2.1 (pend s.1 s.2.2 k), k)
def depthN (r : List Ky) : Int := (r.foldl dstp (0, 0, .neg)).2.1
section
variable {S : Store}
end
/-! what the depth of a row that works out a formula is -/
def lastK (r : List Ky) : Ky := r.getLastD .plus
def headK (r : List Ky) : Ky := r.headD .plus
/-- the way of a row: from p numbers on, fresh or behind an enter -/
structure Wy (r : List Ky) (d : Int) : Prop where
  fresh : ∀ (p m : Int) (ah : Ky), isEC ah = false → (Lf.isDg ah && Lf.isDg (headK r)) = false → r.foldl dstp (p, m, ah) = (p + 1, max m (p + d), lastK r)
  held : ∀ (p m : Int), p + 1 ≤ m → Lf.isDg (headK r) = true → r.foldl dstp (p + 1, m, .enter) = (p + 1, max m (p + d), lastK r)
/-! no row is less deep than the plain one -/
theorem tr_plain : ∀ f : Fm, Tr f (Lf.krow f) f.needs
  | .num n => .num n
  | .lett s => .lett s
  | .neg f => .neg (tr_plain f)
  | .bin op f g => by
    have a := tr_plain f
    have b := tr_plain g
    unfold Lf.krow
    split
    · rename_i c
      have e : (Fm.bin op f g).needs = max g.needs (1 + f.needs) := by
        show (if f.needs = g.needs then f.needs + 1 else if g.needs > f.needs then g.needs else f.needs) = _
        rw [if_neg (by omega), if_pos c]
        omega
      rw [e]
      exact .two a b
    · rename_i c
      have e : (Fm.bin op f g).needs = max f.needs (1 + g.needs) := by
        show (if f.needs = g.needs then f.needs + 1 else if g.needs > f.needs then g.needs else f.needs) = _
        by_cases c2 : f.needs = g.needs
        · rw [if_pos c2]; omega
        · rw [if_neg c2, if_neg c]; omega
      rw [e]
      exact .one a b
end DL.Tr
namespace DL.Tr
open PySem PySem.Spec PyProof.Rows L2 DL
/-! ### what rows that work a formula out come to -/
/-- behind a row: its value, the numbers beneath it, the mode -/
structure Res (n : Nat) (L : Nat → Int) (d v : Int) (r : List Ky) (t : DL.St) : Prop where
  len : t.lv.length = n
  top : t.lv.getD 0 0 = v
  low : ∀ i : Nat, (i : Int) + d < n → t.lv.getD (i + 1) 0 = L i
  way : t.way = if Lf.isDg (lastK r) = true then ("open" : Str) else "free"
structure Rn (deep : Str) (ks : List Str) (ls : List Int) (n : Nat) (r : List Ky) (d v : Int) : Prop where
  fresh : ∀ s : DL.St, s.lv.length = n → s.way ≠ "held" → (s.way = "open" → Lf.isDg (headK r) = false) → Res n (fun i => s.lv.getD i 0) d v r (Lb.runN deep ks ls r s)
  held : ∀ s : DL.St, s.lv.length = n → s.way = "held" → Lf.isDg (headK r) = true → Res n (fun i => s.lv.getD (i + 1) 0) d v r (Lb.runN deep ks ls r s)
section
variable {deep : Str} {ks : List Str} {ls : List Int} {n : Nat}
end
end DL.Tr
namespace K47
open PySem PySem.Spec PyProof.Rows L2 DL
local macro_rules | `(tactic| and_intros) => `(tactic| repeat (first | with_reducible refine StpA.go ?_ | with_reducible refine StpB.go ?_ | ((with_reducible refine Ok.var ?_); refine ⟨_, rfl, ?_⟩) | ((with_reducible refine Fr.go ?_); intro fr_ e_; simp only [List.set_cons_zero, List.set_cons_succ, setAll, wipeF] at e_; subst e_) | ((with_reducible refine Ok.tgT ?_ ?_); (exact rfl)) | ((with_reducible refine Ok.tgQt ?_ ?_); (exact rfl)) | ((with_reducible refine Ok.tgQl ?_ ?_); (exact rfl)) | with_reducible refine Ok.tupP ?_ | with_reducible refine Ok.tupleP ?_ | ((with_reducible refine Ok.isi_ptu (p := true) ?_ ?_); decide +kernel) | ((with_reducible refine Ok.isi_ptu (p := false) ?_ ?_); decide +kernel) | with_reducible refine ItQ.ptu ?_ | with_reducible refine SrcQ.ptu ?_ | with_reducible refine Ok.len_p ?_ | with_reducible refine Ok.sli_tail ?_ | ((with_reducible refine OkS.aug ?_); refine ⟨_, rfl, ?_⟩) | ((with_reducible refine Ok.ix_t ?_); refine ⟨_, rfl, ?_⟩) | ((with_reducible refine Ok.ix_l ?_); refine ⟨_, rfl, ?_⟩) | ((with_reducible refine Ok.tgT ?_ ?_); exact rfl) | with_reducible refine Ok.sli_t ?_ | with_reducible refine Ok.sli_l ?_ | ((with_reducible refine Ok.mod_ii ?_ ?_); (first | decide | (simp; done) | (simp; omega))) | ((with_reducible refine Ok.add_tt ?_ ?_); (first | decide | (simp; done) | (simp; omega))) | ((with_reducible refine Ok.add_ll ?_ ?_); (first | decide | (simp; done) | (simp; omega))) | ((with_reducible refine Ok.add_ss ?_ ?_); (first | decide | (simp; done) | (simp; omega))) | ((with_reducible refine Ok.rng1 ?_ ?_); (first | decide | omega | (simp; omega))) | ((with_reducible refine Br.dt ?_ ?_); (first | assumption | exact rfl | omega | decide +kernel)) | ((with_reducible refine Br.df ?_ ?_); (first | assumption | omega | decide +kernel)) | ((with_reducible refine Br.tt ?_ ?_); (first | assumption | decide +kernel)) | ((with_reducible refine Br.ff ?_ ?_); (first | assumption | decide +kernel)) | ((with_reducible refine Ok.isi_tup (p := true) ?_ ?_); decide +kernel) | ((with_reducible refine Ok.isi_tup (p := false) ?_ ?_); decide +kernel) | ((with_reducible refine Ok.isi_int (p := true) ?_ ?_); decide +kernel) | ((with_reducible refine Ok.isi_int (p := false) ?_ ?_); decide +kernel) | ((with_reducible refine Ok.isi_str (p := true) ?_ ?_); decide +kernel) | ((with_reducible refine Ok.isi_str (p := false) ?_ ?_); decide +kernel) | ((with_reducible refine Ok.isi_lst (p := true) ?_ ?_); decide +kernel) | ((with_reducible refine Ok.isi_lst (p := false) ?_ ?_); decide +kernel) | ((with_reducible refine Ok.isi_bl (p := true) ?_ ?_); decide +kernel) | ((with_reducible refine Ok.isi_bl (p := false) ?_ ?_); decide +kernel) | ((with_reducible refine Ok.isi_non (p := true) ?_ ?_); decide +kernel) | ((with_reducible refine Ok.isi_non (p := false) ?_ ?_); decide +kernel) | ((with_reducible refine Ok.isi_ctu (p := true) ?_ ?_); decide +kernel) | ((with_reducible refine Ok.isi_ctu (p := false) ?_ ?_); decide +kernel) | ((with_reducible refine Ok.isi_emp (p := true) ?_ ?_); decide +kernel) | ((with_reducible refine Ok.isi_emp (p := false) ?_ ?_); decide +kernel)))
theorem e_x_formula : ∀ k, K47.F_x_formula k = Lb.F_x_formula k
  | 0 => rfl
  | k + 1 => by
    show defF 5 (K47.B_x_formula (K47.F_x_formula k)) = defF 5 (Lb.B_x_formula (Lb.F_x_formula k))
    rw [e_x_formula k]
    rfl
theorem e_tree : ∀ k, K47.F_tree_rows k = Tr.F_tree_rows (K47.F_plain_row 20) K47.F_joined k
  | 0 => rfl
  | k + 1 => by
    show defF 5 (K47.B_tree_rows (K47.F_tree_rows k)) = defF 5 (Tr.B_tree_rows (K47.F_plain_row 20) K47.F_joined (Tr.F_tree_rows (K47.F_plain_row 20) K47.F_joined k))
    rw [e_tree k]
    rfl
theorem nd (f : Fm) (S : Store) (h : f.ok) (h2 : f.ops < 20) : F_needs 20 [f.d] S = .ok (.int f.needs) S := needs_run (F := F_needs) (fun _ => rfl) f 20 S h h2
theorem jo (a b : List Str) (S : Store) (ha : a ≠ []) (hb : b ≠ []) (hl : a.length + b.length ≤ 1000) : F_joined [.tup (a.map .str), .tup (b.map .str)] S = .ok (.tup ((joinL a b).map .str)) S := joined_run ha hb hl S
theorem plain (f : Fm) (S : Store) (h : f.ok) (h2 : f.ops < 20) : F_plain_row 20 [f.d] S = .ok (rowD (Lf.krow f)) S := by
  rw [← Lf.krow_row h]
  exact plain_run (F := F_plain_row) (nd := F_needs 20) (jo := F_joined) (fun _ => rfl) nd jo f 20 S h h2 h2
theorem pt : Tr.Pt (K47.F_plain_row 20) K47.F_joined := ⟨plain, jo⟩
/-! the law's own joining -/
theorem xjoined_run {a b : List Str} (ha : a ≠ []) (hb : b ≠ []) (hl : a.length + b.length ≤ 1000) (S : Store) : F_x_joined [.tup (a.map .str), .tup (b.map .str)] S = .ok (.tup ((joinL a b).map .str)) S := by
  obtain ⟨a', ea⟩ := last_split ha
  obtain ⟨b', eb⟩ := head_split hb
  have xa : ixD (.tup (a.map .str)) (.int (-1)) S = .ok (.str (a.getLastD "")) S := by
    rw [ea, List.map_append]
    have := ix_lastT (l := a'.map .str) (x := .str (a.getLastD "")) (S := S)
    rw [← ea]
    exact this
  have xb : ixD (.tup (b.map .str)) (.int 0) S = .ok (.str (b.headD "")) S := by
    conv => lhs; rw [eb]
    rw [List.map_cons]
    exact ix0
  have i1 : inD (.str (a.getLastD "")) (.str "0123456789") S = .ok (.bl (isD (a.getLastD ""))) S := rfl
  have i2 : inD (.str (b.headD "")) (.str "0123456789") S = .ok (.bl (isD (b.headD ""))) S := rfl
  have a0 : addD (.tup (a.map .str)) (.tup []) S = .ok (.tup (a.map .str)) S := by rw [add_tup (by simp; rw [sizeLine_eq]; omega), List.append_nil]
  have a1 : addD (.tup (a.map .str)) (.tup (b.map .str)) S = .ok (.tup ((a ++ b).map .str)) S := by rw [add_tup (by simp; rw [sizeLine_eq]; omega), List.map_append]
  have a2 : addD (.tup (a.map .str)) (.tup [.str "enter"]) S = .ok (.tup ((a ++ [("enter" : Str)]).map .str)) S := by rw [add_tup (by simp; rw [sizeLine_eq]; omega), List.map_append]; rfl
  have a3 : addD (.tup ((a ++ [("enter" : Str)]).map .str)) (.tup (b.map .str)) S = .ok (.tup ((a ++ [("enter" : Str)] ++ b).map .str)) S := by rw [add_tup (by simp; rw [sizeLine_eq]; omega), ← List.map_append]
  refine def_rt (fr := [some (.tup (a.map .str)), some (.tup (b.map .str)), some (.bl (isD (a.getLastD "") && isD (b.headD "")))]) ?_
  show B_x_joined [some (.tup (a.map .str)), some (.tup (b.map .str)), none] S = _
  clear ea eb
  unfold joinL
  generalize a.getLastD "" = la at *
  generalize b.headD "" = fb at *
  generalize isD la = x at i1 ⊢
  generalize isD fb = y at i2 ⊢
  unfold B_x_joined
  cases x <;> cases y <;> simp [xa, xb, i1, i2, a0, a1, a2, a3, -DL.nin_str, -DL.in_str, -List.map_append, -List.append_assoc]
theorem xjo {a b : List Ky} (ha : a ≠ []) (hb : b ≠ []) (hl : a.length + b.length ≤ 1000) (S : Store) : F_x_joined [rowD a, rowD b] S = .ok (rowD (Lf.kjoin a b)) S := by
  have := xjoined_run (a := a.map Ky.s) (b := b.map Ky.s) (by simpa using ha) (by simpa using hb) (by simpa using hl) S
  rw [Lf.kjoin_s ha hb] at this
  exact this
/-! the rows in plain Lean -/
def ksr (r : List Ky) : TX := r.map Ky.s
theorem tk_ksr (r : List Ky) : Tr.tk r = (ksr r).map fun s => Sum.inr s := by
  unfold Tr.tk ksr
  rw [List.map_map]
  rfl
theorem ksr_inj {a b : List Ky} : ksr a = ksr b ↔ a = b := by
  constructor
  · intro h
    refine Tr.tk_inj.mp ?_
    rw [tk_ksr, tk_ksr, h]
  · rintro rfl; rfl
theorem leR_leS (a b : List Ky) : Tr.leR a b = leS (ksr a) (ksr b) := by
  have h : ∀ r : List Ky, pyd (rowD r) = txP (ksr r) := fun r => by
    unfold pyd
    rw [Tr.py_row]
    rfl
  unfold Tr.leR leX leS
  rw [h, h]
def onceK : List (List Ky) → List (List Ky)
  | [] => []
  | r :: l => if r ∈ onceK l then onceK l else r :: onceK l
theorem once_map : ∀ l : List (List Ky), (onceK l).map ksr = once (l.map ksr)
  | [] => rfl
  | r :: l => by
    have ih := once_map l
    have e : ksr r ∈ once (l.map ksr) ↔ r ∈ onceK l := by
      rw [← ih, List.mem_map]
      constructor
      · rintro ⟨x, hx, e⟩
        rw [← ksr_inj.mp e]; exact hx
      · intro h; exact ⟨r, h, rfl⟩
    unfold onceK
    rw [List.map_cons, once]
    by_cases c : r ∈ onceK l
    · rw [if_pos c, if_pos (e.mpr c), ih]
    · rw [if_neg c, if_neg (fun z => c (e.mp z)), List.map_cons, ih]
def sortK (l : List (List Ky)) : List (List Ky) := (onceK l).mergeSort Tr.leR
theorem sortK_map (l : List (List Ky)) : (sortK l).map ksr = sortU (l.map ksr) := by
  unfold sortK sortU
  rw [← once_map, List.map_mergeSort (r := Tr.leR) (s := leS) (f := ksr) (fun a _ b _ => leR_leS a b)]
theorem nd_of_map {α β : Type} {f : α → β} : ∀ {l : List α}, (l.map f).Nodup → l.Nodup
  | [], _ => List.nodup_nil
  | x :: l, h => by
    rw [List.map_cons, List.nodup_cons] at h
    exact List.nodup_cons.mpr ⟨fun z => h.1 (List.mem_map.mpr ⟨x, z, rfl⟩), nd_of_map h.2⟩
theorem nd_map {α β : Type} {f : α → β} (hf : ∀ a b, f a = f b → a = b) : ∀ {l : List α}, l.Nodup → (l.map f).Nodup
  | [], _ => List.nodup_nil
  | x :: l, h => by
    rw [List.nodup_cons] at h
    rw [List.map_cons, List.nodup_cons]
    refine ⟨fun z => ?_, nd_map hf h.2⟩
    obtain ⟨y, hy, e⟩ := List.mem_map.mp z
    rw [← hf _ _ e] at h
    exact h.1 hy
theorem sortK_nd (l : List (List Ky)) : (sortK l).Nodup := by
  refine nd_of_map (f := ksr) ?_
  rw [sortK_map]
  exact (List.mergeSort_perm _ _).nodup_iff.mpr (once_nd _)
theorem mem_sortK {l : List (List Ky)} {r : List Ky} : r ∈ sortK l ↔ r ∈ l := by
  have h : ksr r ∈ (sortK l).map ksr ↔ ksr r ∈ l.map ksr := by rw [sortK_map]; exact mem_sortU
  have e : ∀ m : List (List Ky), ksr r ∈ m.map ksr ↔ r ∈ m := fun m => by
    rw [List.mem_map]
    constructor
    · rintro ⟨x, hx, q⟩
      rw [← ksr_inj.mp q]; exact hx
    · intro h; exact ⟨r, h, rfl⟩
  rwa [e, e] at h
theorem two_sorts {l m : List (List Ky)} (h1 : l.Nodup) (h2 : m.Nodup) (hm : ∀ x, x ∈ l ↔ x ∈ m) : l.mergeSort Tr.leR = m.mergeSort Tr.leR := by
  have pm : (l.map ksr).Perm (m.map ksr) := perm_of_nd (nd_map (fun a b => ksr_inj.mp) h1) (nd_map (fun a b => ksr_inj.mp) h2) fun x => by
    rw [List.mem_map, List.mem_map]
    constructor
    · rintro ⟨y, hy, e⟩; exact ⟨y, (hm y).mp hy, e⟩
    · rintro ⟨y, hy, e⟩; exact ⟨y, (hm y).mpr hy, e⟩
  have := sort_perm pm
  have e : ∀ q : List (List Ky), (q.mergeSort Tr.leR).map ksr = (q.map ksr).mergeSort leS := fun q => List.map_mergeSort (r := Tr.leR) (s := leS) (f := ksr) (fun a _ b _ => leR_leS a b)
  rw [← e, ← e] at this
  have inj : ∀ {a b : List (List Ky)}, a.map ksr = b.map ksr → a = b := by
    intro a
    induction a with
    | nil => intro b h; cases b with | nil => rfl | cons => cases h
    | cons x a ih =>
      intro b h
      cases b with
      | nil => cases h
      | cons y b =>
        rw [List.map_cons, List.map_cons, List.cons.injEq] at h
        rw [ksr_inj.mp h.1, ih h.2]
  exact inj this
/-! the law's rows -/
def pairX (op : Str) (a : List Ky) (R : List (List Ky)) (b : List Ky) : List (List Ky) := R ++ [Lf.kjoin a b ++ [Lf.ksign op]] ++ [Lf.kjoin b a ++ Tr.rv op]
def tx : Fm → List (List Ky)
  | .num n => [Lf.kdig n]
  | .lett s => [[Lf.klett s]]
  | .neg f => (tx f).map (· ++ [.neg])
  | .bin op f g => sortK ((tx f).foldl (fun R a => (tx g).foldl (pairX op a) R) [])
theorem mem_in {op : Str} {a x : List Ky} : ∀ {B R : List (List Ky)}, x ∈ B.foldl (pairX op a) R ↔ x ∈ R ∨ ∃ b ∈ B, x = Lf.kjoin a b ++ [Lf.ksign op] ∨ x = Lf.kjoin b a ++ Tr.rv op
  | [], R => by simp
  | b :: B, R => by
    rw [List.foldl_cons, mem_in]
    simp only [pairX, List.mem_append, List.mem_singleton, List.mem_cons, List.not_mem_nil, false_or, exists_eq_or_imp, or_assoc]
theorem mem_out {op : Str} {x : List Ky} {B : List (List Ky)} : ∀ {A R : List (List Ky)}, x ∈ A.foldl (fun R a => B.foldl (pairX op a) R) R ↔ x ∈ R ∨ ∃ a ∈ A, ∃ b ∈ B, x = Lf.kjoin a b ++ [Lf.ksign op] ∨ x = Lf.kjoin b a ++ Tr.rv op
  | [], R => by simp
  | a :: A, R => by
    rw [List.foldl_cons, mem_out, mem_in]
    simp only [List.mem_cons, exists_eq_or_imp, or_assoc]
theorem mem_tx : ∀ {f : Fm} {x : List Ky}, x ∈ tx f ↔ x ∈ Tr.tl f
  | .num n, x => Iff.rfl
  | .lett s, x => Iff.rfl
  | .neg f, x => by
    unfold tx Tr.tl
    rw [List.mem_mergeSort, List.mem_map, List.mem_map]
    constructor
    · rintro ⟨r, hr, rfl⟩; exact ⟨r, mem_tx.mp hr, rfl⟩
    · rintro ⟨r, hr, rfl⟩; exact ⟨r, mem_tx.mpr hr, rfl⟩
  | .bin op f g, x => by
    unfold tx Tr.tl
    rw [List.mem_mergeSort, mem_sortK, mem_out, Tr.mem_out]
    constructor
    · rintro (h | ⟨a, ha, b, hb, e⟩)
      · exact .inl h
      · exact .inr ⟨a, mem_tx.mp ha, b, mem_tx.mp hb, e⟩
    · rintro (h | ⟨a, ha, b, hb, e⟩)
      · exact .inl h
      · exact .inr ⟨a, mem_tx.mpr ha, b, mem_tx.mpr hb, e⟩
theorem app_inj (a b : List Ky) (h : a ++ [Ky.neg] = b ++ [Ky.neg]) : a = b := List.append_cancel_right h
theorem tx_nd : ∀ f : Fm, (tx f).Nodup
  | .num n => by simp [tx]
  | .lett s => by simp [tx]
  | .neg f => nd_map app_inj (tx_nd f)
  | .bin op f g => sortK_nd _
theorem ins_nd {R : List (List Ky)} {r : List Ky} (h : R.Nodup) : (Tr.ins R r).Nodup := by
  unfold Tr.ins
  split
  · exact h
  · rename_i c
    refine (List.perm_append_singleton r R).nodup_iff.mpr (List.nodup_cons.mpr ⟨c, h⟩)
theorem in_nd {op : Str} {a : List Ky} : ∀ {B R : List (List Ky)}, R.Nodup → (B.foldl (Tr.pair op a) R).Nodup
  | [], R, h => h
  | b :: B, R, h => by
    rw [List.foldl_cons]
    exact in_nd (ins_nd (ins_nd h))
theorem out_nd {op : Str} {B : List (List Ky)} : ∀ {A R : List (List Ky)}, R.Nodup → (A.foldl (fun R a => B.foldl (Tr.pair op a) R) R).Nodup
  | [], R, h => h
  | a :: A, R, h => by
    rw [List.foldl_cons]
    exact out_nd (in_nd h)
theorem tl_nd : ∀ f : Fm, (Tr.tl f).Nodup
  | .num n => by simp [Tr.tl]
  | .lett s => by simp [Tr.tl]
  | .neg f => (List.mergeSort_perm _ _).nodup_iff.mpr (nd_map app_inj (tl_nd f))
  | .bin op f g => (List.mergeSort_perm _ _).nodup_iff.mpr (out_nd List.nodup_nil)
theorem tl_sorted (f : Fm) : (Tr.tl f).mergeSort Tr.leR = Tr.tl f := by
  have tr : ∀ a b c : List Ky, Tr.leR a b = true → Tr.leR b c = true → Tr.leR a c = true := fun a b c => by
    rw [leR_leS, leR_leS, leR_leS]; exact leS_trans _ _ _
  have to : ∀ a b : List Ky, (Tr.leR a b || Tr.leR b a) = true := fun a b => by
    rw [leR_leS, leR_leS]; exact leS_total _ _
  have one : ∀ x : List Ky, [x].mergeSort Tr.leR = [x] := fun x => List.mergeSort_of_pairwise (List.pairwise_singleton _ _)
  cases f with
  | num n => exact one _
  | lett s => exact one _
  | neg f => exact List.mergeSort_of_pairwise (List.pairwise_mergeSort (le := Tr.leR) tr to _)
  | bin op f g => exact List.mergeSort_of_pairwise (List.pairwise_mergeSort (le := Tr.leR) tr to _)
theorem tx_tl (f : Fm) : (tx f).mergeSort Tr.leR = Tr.tl f := by
  rw [two_sorts (tx_nd f) (tl_nd f) fun x => mem_tx, tl_sorted]
theorem in_len (op : Str) (a : List Ky) : ∀ (B R : List (List Ky)), (B.foldl (pairX op a) R).length = R.length + 2 * B.length
  | [], R => by simp
  | b :: B, R => by
    rw [List.foldl_cons, in_len op a B]
    simp only [pairX, List.length_append, List.length_cons, List.length_nil]
    omega
theorem out_len (op : Str) (B : List (List Ky)) : ∀ (A R : List (List Ky)), (A.foldl (fun R a => B.foldl (pairX op a) R) R).length = R.length + 2 * (A.length * B.length)
  | [], R => by simp
  | a :: A, R => by
    rw [List.foldl_cons, out_len op B A, in_len, List.length_cons, Nat.add_mul]
    omega
theorem tx_len (f : Fm) : (tx f).length ≤ 2 ^ f.ops := by
  have : (tx f).length = (Tr.tl f).length := by rw [← tx_tl f, List.length_mergeSort]
  rw [this]
  exact Tr.tl_len f
theorem tx_row {f : Fm} (h6 : f.ops ≤ 6) : ∀ b ∈ tx f, b ≠ [] ∧ b.length ≤ 100 := fun b h => by
  obtain ⟨d, h⟩ := Tr.mem_tl.mp (mem_tx.mp h)
  have := Tr.tr_len h
  exact ⟨Tr.tr_ne h, by omega⟩

/-! the law's rows, by the law -/
section
variable {S S0 : Store} {QD : D → Store → Prop} {QS : Fl → DL.Frame → Store → Prop} {n : Nat}
theorem neg_it {self : List D → M D} {v0 v1 v2 v3 v4 v5 v6 v7 : Option D} : ∀ (L : List (List Ky)), (∀ r ∈ L, r.length ≤ 900) → Ok (itL (tgName 6) yesF (E_x_trees_2 self) [v0, v1, v2, v3, v4, v5, v6, v7] (L.map rowD) S) fun ys S' => ys = (L.map (· ++ [Ky.neg])).map rowD ∧ S' = S
  | [], _ => ⟨rfl, rfl⟩
  | r :: L, h => by
    rw [List.map_cons]
    refine Ok.icons ?_
    unfold E_x_trees_2
    and_intros
    have hr := h r (List.mem_cons_self ..)
    refine Tr.add_rr (r := r) (r2 := [.neg]) (by simp; omega) ?_
    refine (neg_it (self := self) L fun r hr => h r (List.mem_cons_of_mem _ hr)).imp ?_
    rintro ys S'' ⟨rfl, rfl⟩
    exact ⟨rfl, rfl⟩
theorem app_row {R : List (List Ky)} {r : List Ky} (e : S[n]? = some (some (.lst (R.map rowD)))) (z : R.length < 1000) (h : QD .non (S.set n (some (.lst ((R ++ [r]).map rowD))))) : Ok (appD (.ob n) [rowD r] S) QD := by
  refine Ok.app_o e (by rw [List.length_map]; exact z) ?_
  rw [List.map_append] at h
  exact h
theorem txRows_map : ∀ L : List (List Ky), txRows (L.map rowD) = some (L.map ksr)
  | [] => rfl
  | r :: L => by
    have e : txRow (rowD r) = some (ksr r) := by
      unfold rowD txRow ksr
      show txts _ = _
      induction r with
      | nil => rfl
      | cons k r ih =>
        rw [List.map_cons, List.map_cons, txts, ih]
        rfl
    rw [List.map_cons, txRows, e, txRows_map L]
    rfl
theorem sset_ {R : List (List Ky)} (e : S[n]? = some (some (.lst (R.map rowD)))) (hl : R.length ≤ 65) (hn : ∀ r ∈ R, r ≠ []) (h : QD (.lst ((sortK R).map rowD)) S) : Ok (ssetT [.ob n] S) QD := by
  refine Ok.of (v := .lst ((sortK R).map rowD)) (S1 := S) ?_ h
  unfold ssetT
  have e1 : oneL S [.ob n] = some (R.map rowD) := by
    show oLst S[n]? = _
    rw [e]
    rfl
  simp only [e1, txRows_map]
  rw [if_pos ⟨by rw [List.length_map]; exact hl, fun x hx => by
    obtain ⟨r, hr, rfl⟩ := List.mem_map.mp hx
    have := hn r hr
    cases r with
    | nil => exact absurd rfl this
    | cons k r => exact fun z => nomatch z⟩, ← sortK_map, List.map_map]
  rfl
theorem in_loop {self : List D → M D} {op : Str} {fd gd : D} {a : List Ky} {v2 v3 v6 v7 : Option D} (ho : op ∈ OPS) (ha : a ≠ [] ∧ a.length ≤ 100) (hn : S0.length ≤ n) :
    ∀ (B : List (List Ky)) {R : List (List Ky)} {S : Store} {v5 : Option D}, (∀ b ∈ B, b ≠ [] ∧ b.length ≤ 100) → R.length + 2 * B.length ≤ 900 → S[n]? = some (some (.lst (R.map rowD))) → Ext S0 S →
    (∀ v5 S', S'[n]? = some (some (.lst ((B.foldl (pairX op a) R).map rowD))) → Ext S0 S' → QS .nx [some (.tup [.str op, fd, gd]), some (.ob n), v2, v3, some (rowD a), v5, v6, v7] S') →
    OkS (loopL (tgName 5) (L_x_trees_2 self) (B.map rowD) [some (.tup [.str op, fd, gd]), some (.ob n), v2, v3, some (rowD a), v5, v6, v7] S) QS
  | [], R, S, v5, hB, hR, e, ex, h => OkS.lnil (h v5 S e ex)
  | b :: B, R, S, v5, hB, hR, e, ex, h => by
    have hb := hB b (List.mem_cons_self ..)
    have k1 := Tr.kjoin_len a b
    have k2 := Tr.kjoin_len b a
    have es : D.tup [D.str op] = rowD [Lf.ksign op] := by
      unfold rowD
      rw [List.map_cons, Lf.ksign_s op ho]
      rfl
    rw [List.length_cons] at hR
    rw [List.map_cons]
    refine OkS.lcons ?_
    unfold L_x_trees_2
    and_intros
    refine Ok.met ?_
    and_intros
    refine ⟨Lb.tyR_lst e, ?_⟩
    and_intros
    refine Ok.of (xjo ha.1 hb.1 (by omega) S) ?_
    and_intros
    rw [es]
    refine Tr.add_rr (by simp; omega) ?_
    refine app_row e (by omega) ?_
    have hl : n < S.length := (List.getElem?_eq_some_iff.mp e).1
    have e2 : (S.set n (some (.lst ((R ++ [Lf.kjoin a b ++ [Lf.ksign op]]).map rowD))))[n]? = some (some (.lst ((R ++ [Lf.kjoin a b ++ [Lf.ksign op]]).map rowD))) := List.getElem?_set_self hl
    have ex2 := Ext.set (o := some (.lst ((R ++ [Lf.kjoin a b ++ [Lf.ksign op]]).map rowD))) ex hn
    generalize S.set n (some (.lst ((R ++ [Lf.kjoin a b ++ [Lf.ksign op]]).map rowD))) = S2 at e2 ex2
    and_intros
    refine Ok.met ?_
    and_intros
    refine ⟨Lb.tyR_lst e2, ?_⟩
    and_intros
    refine Ok.of (xjo hb.1 ha.1 (by omega) S2) ?_
    and_intros
    have hl2 : n < S2.length := (List.getElem?_eq_some_iff.mp e2).1
    refine Br.spd (fun c => ?_) (fun c => ?_)
    · and_intros
      refine Tr.add_rr (r2 := [.swap]) (by simp; omega) ?_
      and_intros
      rw [es]
      refine Tr.add_rr (by simp; omega) ?_
      refine app_row e2 (by simp; omega) ?_
      and_intros
      refine in_loop (self := self) ho ha hn B (fun b hb => hB b (List.mem_cons_of_mem _ hb)) (R := pairX op a R b) (by simp [pairX]; omega) ?_ (Ext.set ex2 hn) h
      rw [List.getElem?_set_self hl2]
      unfold pairX Tr.rv
      rw [if_pos c, c, List.append_assoc (Lf.kjoin b a)]
      rfl
    · and_intros
      refine Tr.add_rr (r2 := []) (by simp; omega) ?_
      rw [List.append_nil]
      and_intros
      rw [es]
      refine Tr.add_rr (by simp; omega) ?_
      refine app_row e2 (by simp; omega) ?_
      and_intros
      refine in_loop (self := self) ho ha hn B (fun b hb => hB b (List.mem_cons_of_mem _ hb)) (R := pairX op a R b) (by simp [pairX]; omega) ?_ (Ext.set ex2 hn) h
      rw [List.getElem?_set_self hl2]
      unfold pairX Tr.rv
      rw [if_neg c]
theorem out_loop {self : List D → M D} {op : Str} {fd gd : D} {B : List (List Ky)} {v6 v7 : Option D} (ho : op ∈ OPS) (hn : S0.length ≤ n) (hB : ∀ b ∈ B, b ≠ [] ∧ b.length ≤ 100) :
    ∀ (A : List (List Ky)) {R : List (List Ky)} {S : Store} {v2 v4 v5 : Option D}, (∀ b ∈ A, b ≠ [] ∧ b.length ≤ 100) → R.length + 2 * (A.length * B.length) ≤ 900 → S[n]? = some (some (.lst (R.map rowD))) → Ext S0 S →
    (∀ v4 v5 S', S'[n]? = some (some (.lst ((A.foldl (fun R a => B.foldl (pairX op a) R) R).map rowD))) → Ext S0 S' → QS .nx [some (.tup [.str op, fd, gd]), some (.ob n), v2, some (.lst (B.map rowD)), v4, v5, v6, v7] S') →
    OkS (loopL (tgName 4) (L_x_trees_1 self) (A.map rowD) [some (.tup [.str op, fd, gd]), some (.ob n), v2, some (.lst (B.map rowD)), v4, v5, v6, v7] S) QS
  | [], R, S, v2, v4, v5, hA, hR, e, ex, h => OkS.lnil (h v4 v5 S e ex)
  | a :: A, R, S, v2, v4, v5, hA, hR, e, ex, h => by
    have ha := hA a (List.mem_cons_self ..)
    have i2 := in_len op a B R
    rw [List.length_cons, Nat.add_mul] at hR
    rw [List.map_cons]
    refine OkS.lcons ?_
    unfold L_x_trees_1
    and_intros
    refine in_loop (self := self) ho ha hn B hB (R := R) (by omega) e ex fun v5 S3 e3 ex3 => ?_
    exact out_loop (self := self) ho hn hB A (fun b hb => hA b (List.mem_cons_of_mem _ hb)) (by omega) e3 ex3 h
end
theorem trees_ok : ∀ (f : Fm) (k : Nat) {S : Store}, f.ok → f.ops < k → f.ops ≤ 6 → Ok (F_x_trees k [f.d] S) fun d S' => d = .lst ((tx f).map rowD) ∧ Ext S S'
  | _, 0, _, _, h, _ => absurd h (Nat.not_lt_zero _)
  | .num i, k + 1, S, ok, _, _ => by
    have t := text_signs (fr := [some (.int i), none, none, none, none, none, none, none]) (S := S) (fe := calF strD [varF 0]) (j := 7) (by simp [str_num ok]) (chars_num i) (by have := (digs_ok i ok).2.2; omega) (by simp)
    have e : F_x_trees (k + 1) [.int i] S = .ok (.lst [.tup ((digs i).map .str)]) S := by
      refine def_rt (fr := [some (.int i), none, none, none, none, none, none, none]) ?_
      show B_x_trees (F_x_trees k) [some (.int i), none, none, none, none, none, none, none] S = _
      simp [B_x_trees, E_x_trees_1, t]
    refine Ok.of e ⟨?_, Ext.refl⟩
    rw [Lf.digs_k i ok]
    rfl
  | .lett s, k + 1, S, ok, _, _ => by
    have t := text_signs (fr := [some (.str s), none, none, none, none, none, none, none]) (S := S) (fe := calF strD [varF 0]) (l := [s]) (j := 7) (by simp) (chars_lett s ok) (by simp) (by simp)
    have e : F_x_trees (k + 1) [.str s] S = .ok (.lst [.tup [.str s]]) S := by
      refine def_rt (fr := [some (.str s), none, none, none, none, none, none, none]) ?_
      show B_x_trees (F_x_trees k) [some (.str s), none, none, none, none, none, none, none] S = _
      simp [B_x_trees, E_x_trees_1, t]
    refine Ok.of e ⟨?_, Ext.refl⟩
    unfold tx rowD
    rw [List.map_cons, List.map_cons, Lf.klett_s s ok]
    rfl
  | .neg f, k + 1, S, ok, h, h2 => by
    simp only [Fm.ops] at h h2
    unfold F_x_trees
    simp only [Fm.d]
    with_reducible refine Ok.def_ ?_
    simp only [frame0, List.map_cons, List.map_nil, List.length_cons, List.length_nil, Nat.reduceAdd, Nat.reduceSub, Nat.zero_add, List.reduceReplicate, List.cons_append, List.nil_append]
    unfold B_x_trees
    and_intros
    refine (trees_ok f k ok (by omega) (by omega)).imp ?_
    rintro d S1 ⟨rfl, ex⟩
    have hl := tx_len f
    have h6 : 2 ^ f.ops ≤ 2 ^ 6 := Nat.pow_le_pow_right (by decide) (by omega)
    and_intros
    refine ⟨by simp; omega, ?_⟩
    with_reducible refine Fr.go ?_
    intro fr_ e_
    simp only [List.set_cons_zero, List.set_cons_succ, setAll, wipeF] at e_
    subst e_
    refine (neg_it (tx f) fun r hr => ?_).imp ?_
    · have := (tx_row (by omega) r hr).2
      omega
    rintro ys S2 ⟨rfl, rfl⟩
    and_intros
    exact ⟨rfl, ex⟩
  | .bin op f g, k + 1, S, ok, h, h2 => by
    simp only [Fm.ops] at h h2
    have hneg := ops_neg op ok.1
    unfold F_x_trees
    simp only [Fm.d]
    have l1 := tx_len f
    have l2 := tx_len g
    have p6 : 2 ^ f.ops * 2 ^ g.ops ≤ 2 ^ 5 := by rw [← Nat.pow_add]; exact Nat.pow_le_pow_right (by decide) (by omega)
    have l3 := Nat.mul_le_mul l1 l2
    have l4 := out_len op (tx g) (tx f) []
    rw [List.length_nil, Nat.zero_add] at l4
    with_reducible refine Ok.def_ ?_
    simp only [frame0, List.map_cons, List.map_nil, List.length_cons, List.length_nil, Nat.reduceAdd, Nat.reduceSub, Nat.zero_add, List.reduceReplicate, List.cons_append, List.nil_append]
    unfold B_x_trees
    and_intros
    have e0 : (S ++ [some (O.lst ([].map rowD))])[S.length]? = some (some (.lst ([].map rowD))) := by rw [List.getElem?_append_right (Nat.le_refl _)]; simp
    have ex0 : Ext S (S ++ [some (O.lst ([].map rowD))]) := Ext.app
    rw [show (S ++ [some (O.lst [])]) = S ++ [some (O.lst ([].map rowD))] from rfl]
    generalize S ++ [some (O.lst ([].map rowD))] = S1 at e0 ex0
    and_intros
    refine (trees_ok f k ok.2.1 (by omega) (by omega)).imp ?_
    rintro d S2 ⟨rfl, ex2⟩
    and_intros
    refine (trees_ok g k ok.2.2 (by omega) (by omega)).imp ?_
    rintro d S3 ⟨rfl, ex3⟩
    and_intros
    refine out_loop ok.1 (Nat.le_refl _) (tx_row (by omega)) (tx f) (tx_row (by omega)) (by rw [List.length_nil]; omega) (ex3.get (ex2.get e0)) ((ex0.trans ex2).trans ex3) fun v4 v5 S4 e4 ex4 => ?_
    and_intros
    refine sset_ e4 (by omega) (fun r hr => ?_) ?_
    · rcases mem_out.mp hr with h | ⟨a, _, b, _, e | e⟩
      · exact nomatch h
      · rw [e]; simp
      · rw [e]
        intro z
        have := (List.append_eq_nil_iff.mp z).2
        unfold Tr.rv at this
        split at this <;> cases this
    exact ⟨rfl, ex4⟩
theorem rows_rz {L : List (List Ky)} (hl : L.length ≤ 64) (h : ∀ r ∈ L, r.length ≤ 40) : Rz 2 2000000 (.tup (L.map rowD)) := by
  refine (Rz.tup (dep := 1) (len := 20000) fun d hd => ?_).mono (Nat.le_refl _) (by simp; omega)
  obtain ⟨r, hr, rfl⟩ := List.mem_map.mp hd
  exact Lb.row_rz r (h r hr)
theorem srt_one {S : Store} {QD : D → Store → Prop} {f : Fm} (h6 : f.ops ≤ 6) (h : QD (.lst ((Tr.tl f).map rowD)) S) : Ok (sortedX [.lst ((tx f).map rowD)] S) QD := by
  have := tx_len f
  have p6 : 2 ^ f.ops ≤ 2 ^ 6 := Nat.pow_le_pow_right (by decide) h6
  refine Tr.srt_rows (by omega) (fun r hr => (tx_row h6 r hr).1) ?_
  rw [tx_tl]
  exact h
theorem eqN {S : Store} {QD : D → Store → Prop} (s : Str) (h : QD (.bl false) S) : Ok (neD (.str s) (.str s) S) QD := by
  refine Ok.ne_ss ?_
  simpa using h
theorem mem_row {S : Store} {QD : D → Store → Prop} {L : List (List Ky)} {r : List Ky} (h1 : r ∈ L) (hl : r.length ≤ 40) (hz : Rz 2 2000000 (.tup (L.map rowD))) (h : QD (.bl false) S) : Ok (notInD (rowD r) (.tup (L.map rowD)) S) QD := by
  refine Ok.of (v := .bl false) (S1 := S) ?_ h
  obtain ⟨p, e1, _, c1, d1, _⟩ := (Lb.row_rz r hl).ex
  obtain ⟨q, e2, _, c2, d2, _⟩ := hz.ex
  have s1 : SeqAt.shaped p = true := by unfold SeqAt.shaped; simp [c1]; omega
  have s2 : SeqAt.shaped q = true := by unfold SeqAt.shaped; simp [c2]; omega
  have eq_ : q = .tuple (L.map fun r => .tuple ((r.map Ky.s).map .str)) := by
    have : py (.tup (L.map rowD)) = some (.tuple (L.map fun r => .tuple ((r.map Ky.s).map .str))) := by
      show (pys _).map PyData.tuple = _
      rw [Tr.pys_rows]
      rfl
    rw [this] at e2
    exact (Option.some.inj e2).symm
  have ep : p = .tuple ((r.map Ky.s).map .str) := by
    rw [Tr.py_row] at e1
    exact (Option.some.inj e1).symm
  have m : ((L.map fun r => PyData.tuple ((r.map Ky.s).map .str)).any fun z => PyData.eqv z p) = true := by
    rw [List.any_eq_true]
    exact ⟨p, by rw [ep]; exact List.mem_map.mpr ⟨r, h1, rfl⟩, eqv_refl p c1⟩
  have e1' : pyS S (rowD r) = some p := e1
  have e2' : pyS S (.tup (L.map rowD)) = some q := e2
  show (match pyS S (rowD r), pyS S (.tup (L.map rowD)) with
    | some p, some q => if SeqAt.shaped p = true ∧ SeqAt.shaped q = true then (match itemsOf q with
      | some ds => (.ok (.bl (!ds.any fun z => PyData.eqv z p)) S : DL.R D)
      | none => .bad) else .bad
    | _, _ => .bad) = _
  rw [e1', e2']
  simp only [s1, s2, and_self, if_true]
  rw [eq_]
  simp only [itemsOf, m]
  rfl
theorem law_true (ns : List Int) (h : ns.length ≤ 63) : ∃ S, F_law [.lst (ns.map .int)] [] = .ok (.bl true) S := by
  suffices h : Ok (F_law [.lst (ns.map .int)] []) fun d _ => d = .bl true by
    obtain ⟨d, S, e, rfl⟩ := h.ex
    exact ⟨S, e⟩
  with_reducible refine Ok.def_ ?_
  simp only [frame0, List.map_cons, List.map_nil, List.length_cons, List.length_nil, Nat.reduceAdd, Nat.reduceSub, Nat.zero_add, List.reduceReplicate, List.cons_append, List.nil_append]
  unfold B_law
  and_intros
  obtain ⟨S1, e1, dk, -, -⟩ := deck_run (S := []) h
  refine Ok.of e1 ?_
  obtain ⟨B, dk, hB⟩ : ∃ B, Dk 1 0 B S1 ∧ 20000 ≤ B := ⟨_, dk, by decide⟩
  and_intros
  refine OkS.loop (I := fun i fr S => (∃ v2 v3 v4, fr = [some (.lst (ns.map .int)), some (.ob 1), v2, v3, v4]) ∧ Dk 1 0 (B - 1000 * i) S) ⟨⟨_, _, _, rfl⟩, dk.mono (by omega)⟩ ?_ ?_
  · rintro i x fr S hx ⟨⟨v2, v3, v4, rfl⟩, dk⟩
    obtain ⟨rfl, hi⟩ := rngL_get hx
    replace hi : i < 6 := hi
    unfold L_law_1
    simp only [e_x_formula, e_tree]
    and_intros
    refine Ok.draw dk (by omega) (by decide) (by decide) ?_
    intro z S2 r0 r1 dk2 _
    obtain ⟨room, rfl⟩ : ∃ k : Nat, z = k := ⟨z.toNat, by omega⟩
    and_intros
    refine Lb.Ok.formula 20 room (by omega) (by omega) dk2 (by omega) ?_
    intro f S3 hf ho dk3 _
    have h6 : f.ops ≤ 6 := by omega
    and_intros
    refine (Tr.tree_ok pt f 20 hf (by omega) h6).imp ?_
    rintro d S5 ⟨rfl, ex5⟩
    have dk5 := dk3.ext ex5
    have tl := Tr.tl_len f
    have p6 : 2 ^ f.ops ≤ 2 ^ 6 := Nat.pow_le_pow_right (by decide) h6
    have rz := rows_rz (L := Tr.tl f) (by omega) fun r hr => by
      obtain ⟨d, t⟩ := Tr.mem_tl.mp hr
      have := Tr.tr_len t
      omega
    have plm : Lf.krow f ∈ Tr.tl f := Tr.mem_tl.mpr ⟨_, Tr.tr_plain f⟩
    and_intros
    refine Ok.repr rz (by decide) (by decide) ?_
    and_intros
    refine (trees_ok f 20 hf (by omega) h6).imp ?_
    rintro d S6 ⟨rfl, ex6⟩
    have dk6 := dk5.ext ex6
    and_intros
    refine srt_one h6 ?_
    and_intros
    refine Ok.repr rz (by decide) (by decide) ?_
    refine eqN _ ?_
    and_intros
    refine Ok.of (plain f S6 hf (by omega)) ?_
    and_intros
    refine mem_row plm (by have := Tr.tr_len (Tr.tr_plain f); omega) rz ?_
    and_intros
    refine (Tr.tree_ok pt f 20 hf (by omega) h6).imp ?_
    rintro d S7 ⟨rfl, ex7⟩
    have dk7 := dk6.ext ex7
    and_intros
    refine Ok.repr rz (by decide) (by decide) ?_
    and_intros
    refine Ok.repr rz (by decide) (by decide) ?_
    refine eqN _ ?_
    and_intros
    exact ⟨⟨_, _, _, rfl⟩, dk7.mono (by omega)⟩
  · rintro fr S ⟨⟨v2, v3, v4, rfl⟩, dk⟩
    and_intros
    rfl
end K47
open PySem PySem.W PyProof.Rows
set_option maxRecDepth 100000 in
set_option maxHeartbeats 0 in
theorem PySem.Challenge.cw_levelkeys_k47_rows_operand_by_operand_holds : PySem.Challenge.rw_levelkeys_k47_rows_operand_by_operand.Holds := by
  w_on; o_law; k_head; (case hw => w_witness2)
  k_fill
  refine DL.law_walk (l := PySem.Challenge.rw_levelkeys_k47_rows_operand_by_operand) rfl rfl (fun w h Y => PySem.W.kIn_of Y) ?F
  case F =>
    intro w mg fa h KX G hmg
    refine' K47.all_mk KX G hmg ?a0 ?l0 ?c0 ?k0 ?a1 ?l1 ?c1 ?k1 ?a2 ?l2 ?c2 ?k2 ?a3 ?l3 ?c3 ?k3 ?a4 ?l4 ?c4 ?k4 ?a5 ?l5 ?c5 ?k5 ?a6 ?l6 ?c6 ?k6 ?a7 ?l7 ?c7 ?k7 ?a8 ?l8 ?c8 ?k8 ?a9 ?l9 ?c9 ?k9 ?a10 ?l10 ?c10 ?k10 ?b_abs ?b_int ?b_isinstance ?b_len ?b_max ?b_range ?b_repr ?b_set ?b_sorted ?b_str ?b_tuple ?c_DIGITS K47.law_true
    (case a0 => k_is)
    (case l0 => k_is)
    (case c0 => k_is)
    (case k0 => k_is)
    (case a1 => k_is)
    (case l1 => k_is)
    (case c1 => k_is)
    (case k1 => k_is)
    (case a2 => k_is)
    (case l2 => k_is)
    (case c2 => k_is)
    (case k2 => k_is)
    (case a3 => k_is)
    (case l3 => k_is)
    (case c3 => k_is)
    (case k3 => k_is)
    (case a4 => k_is)
    (case l4 => k_is)
    (case c4 => k_is)
    (case k4 => k_is)
    (case a5 => k_is)
    (case l5 => k_is)
    (case c5 => k_is)
    (case k5 => k_is)
    (case a6 => k_is)
    (case l6 => k_is)
    (case c6 => k_is)
    (case k6 => k_is)
    (case a7 => k_is)
    (case l7 => k_is)
    (case c7 => k_is)
    (case k7 => k_is)
    (case a8 => k_is)
    (case l8 => k_is)
    (case c8 => k_is)
    (case k8 => k_is)
    (case a9 => k_is)
    (case l9 => k_is)
    (case c9 => k_is)
    (case k9 => k_is)
    (case a10 => k_is)
    (case l10 => k_is)
    (case c10 => k_is)
    (case k10 => k_is)
    (case b_abs => k_is)
    (case b_int => k_is)
    (case b_isinstance => k_is)
    (case b_len => k_is)
    (case b_max => k_is)
    (case b_range => k_is)
    (case b_repr => k_is)
    (case b_set => k_is)
    (case b_sorted => k_is)
    (case b_str => k_is)
    (case b_tuple => k_is)
    (case c_DIGITS => k_is)
